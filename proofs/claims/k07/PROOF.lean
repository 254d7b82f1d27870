import PyProof.Rows.All
import HandS.ForMost
import HandS.ForExc
import KE.KDictKeyed
import HandS.TupAny
import HandS.TupMul
import HandS.TupLe
import HandS.Style
import HandS.Wide
import HandS.IsInst
import HandS.SortKw
import HandS.Conv
import KE.SortData
import KE.DataCmp
import KE.DataMinMax
import KE.DataAny
import KE.DataIsa
import KE.DataFind
import KE.SortCalls
import HandS.ExcOwn
import HandS.ExcValue
import HandS.TryMany
import HandS.Small
import HandS.HeadHook1
import HandS.Zip
import KE.GoesEnum
import KE.KDictWalk
import PyProof.DictRoadsH
import PyProof.Rows.TupDisplay
import HandS.SetFor
import KE.KDictLaws
import KE.KDictLaw
import HandS.WordsExc
import HandS.Defaults
import HandS.Codes
import HandS.HeadEnd
import HandS.HeadHook2
import Wide.All
import OpenK.AllK
import Wide.FinOn
import KE.KStateDown
import HandS.Head0
import HandS.Head1
import HandS.Head2
import PySem.Challenge.RW_onearrow_k07_pieces_judged
set_option Elab.async false
set_option linter.all false
set_option maxRecDepth 100000
set_option maxHeartbeats 0
/-! Part 1 of the layer: data, owned things, what stands for them in the heap, transitions. -/
namespace Oa
open PySem PySem.Spec PyProof.Rows L2

abbrev D := PyData

/-- what a slot owns -/
inductive M where
  | d (x : D)
  | v (xs : List D)
  | l (xs : List M)
  | m (kvs : List (D × D))
  | s (xs : List D)
  | t (xs : List D)
  | g (ks : List D) (xs : List M)

/-- a tuple that stands at a, tracked or written -/
def tpOf : HO → Option (List V)
  | .tup xs => some xs
  | .frz _ (.tup xs) => some xs
  | _ => none
theorem tp_rd {F : Hp} {a : Addr} {u : HO} {xs : List V} (h : F a = some u) (e : tpOf u = some xs) : Rd F a (.tup xs) := by
  unfold tpOf at e
  split at e
  · cases e
    exact .inl h
  · cases e
    exact .inr ⟨_, h⟩
  · cases e
def TupAt (K : PySem.W.Frag) (F : Hp) (a : Addr) (xs : List V) : Prop :=
  (∃ u, F a = some u ∧ tpOf u = some xs) ∨ ∃ (o : Obj) (its : Array Value) (n : Nat), K.lookup a = some o ∧ o.cls = .type "tuple" ∧ o.data = .seq its n ∧ its.size ≤ sizeLine ∧ Vals xs its.toList
theorem TupAt.sqT {K : PySem.W.Frag} {F : Hp} {a : Addr} {xs : List V} (h : TupAt K F a xs) : SqT K F a xs := h.elim (fun ⟨_, h, e⟩ => .inl (tp_rd h e)) .inr

/-! ### keys -/
mutual
def keyOf : D → Option NestedKey
  | .none => some .none
  | .bool b => some (.num (if b = true then 1 else 0))
  | .int i => some (.num i)
  | .str x => some (.text x)
  | .tuple xs => (keysOf xs).map NestedKey.tup
  | .list _ => none
  | .dict _ => none
def keysOf : List D → Option (List NestedKey)
  | [] => some []
  | x :: xs => (keyOf x).bind fun k => (keysOf xs).map fun ks => k :: ks
end

/-- one entry of a dict: its hash, key, value -/
structure En where
  h : Int
  k : V
  v : V

def EnsOk : List DictEntry → List En → Prop
  | [], [] => True
  | e :: es, n :: ns => (e.hash = n.h ∧ RelV n.k e.key ∧ RelV n.v e.val) ∧ EnsOk es ns
  | _, _ => False

/-- its epoch, its entries -/
structure Dc where
  ep : Nat
  en : List En
def DctAt (a : Addr) (c : Dc) (h : Heap) : Prop :=
  ∃ o es, h.get? a = some o ∧ o.ExactDict ∧ o.data = .dict es c.ep ∧ EnsOk es.toList c.en ∧ c.en.length ≤ sizeLine ∧ (a == sysModules) = false
/-- a dict, any keys -/
def dctO (a : Addr) (ents : Dc) : HO := .ext (DctAt a ents)

section
variable (K : PySem.W.Frag) (w : World)
mutual
/-- v stands for the data d, over the heap F -/
def RepD (F : Hp) : V → D → Prop
  | x, .none => x = .non
  | x, .bool b => x = .bl b
  | x, .int i => x = .int i
  | x, .str s => x = .str s
  | x, .tuple ds => ∃ a vs, x = .ref a ∧ TupAt K F a vs ∧ RepDs F vs ds
  | x, .list ds => ∃ a vs, x = .ref a ∧ F a = some (.lst vs) ∧ RepDs F vs ds
  | x, .dict kvs => ∃ a ents, x = .ref a ∧ F a = some (dctO a ents) ∧ (kvs.map fun p => keyOf p.1).Nodup ∧ RepKs F ents.en kvs
def RepDs (F : Hp) : List V → List D → Prop
  | [], [] => True
  | x :: xs, d :: ds => RepD F x d ∧ RepDs F xs ds
  | _, _ => False
def RepKs (F : Hp) : List En → List (D × D) → Prop
  | [], [] => True
  | n :: ns, (a, b) :: kvs => ((∃ nk, keyOf a = some nk ∧ n.h = nk.hash w) ∧ RepD F n.k a ∧ RepD F n.v b) ∧ RepKs F ns kvs
  | _, _ => False
end

/-- the keys of entries -/
def RepKy (F : Hp) : List En → List D → Prop
  | [], [] => True
  | n :: ns, a :: ks => ((∃ nk, keyOf a = some nk ∧ n.h = nk.hash w) ∧ RepD K w F n.k a) ∧ RepKy F ns ks
  | _, _ => False
mutual
/-- v stands for the owned m, whose own objects stand at A -/
def RM (F H : Hp) : V → M → List Addr → Prop
  | x, .d y, A => RepD K w F x y ∧ A = []
  | x, .v ds, A => ∃ a vs, x = .ref a ∧ H a = some (.lst vs) ∧ RepDs K w F vs ds ∧ A = [a]
  | x, .l ms, A => ∃ a vs B, x = .ref a ∧ H a = some (.lst vs) ∧ RMs F H vs ms B ∧ A = a :: B
  | x, .m kvs, A => ∃ a ents, x = .ref a ∧ H a = some (dctO a ents) ∧ (kvs.map fun p => keyOf p.1).Nodup ∧ RepKs K w F ents.en kvs ∧ A = [a]
  | x, .s ds, A => ∃ a vs, x = .ref a ∧ SqL K F a vs ∧ RepDs K w F vs ds ∧ A = []
  | x, .t ds, A => ∃ a vs o, x = .ref a ∧ F a = some (.frz o (.tup vs)) ∧ o.dict = none ∧ RepDs K w F vs ds ∧ A = []
  | x, .g ks ms, A => ∃ a ents B, x = .ref a ∧ H a = some (dctO a ents) ∧ (ks.map keyOf).Nodup ∧ RepKy K w F ents.en ks ∧ RMs F H (ents.en.map En.v) ms B ∧ A = a :: B
def RMs (F H : Hp) : List V → List M → List Addr → Prop
  | [], [], A => A = []
  | x :: xs, m :: ms, A => ∃ A1 A2, RM F H x m A1 ∧ RMs F H xs ms A2 ∧ A = A1 ++ A2
  | _, _, _ => False
end

/-- the slots -/
def RS (F H : Hp) : List (Option V) → List (Option M) → List Addr → Prop
  | [], [], A => A = []
  | _ :: xs, none :: ms, A => RS F H xs ms A
  | x :: xs, some m :: ms, A => ∃ u A1 A2, x = some u ∧ RM K w F H u m A1 ∧ RS F H xs ms A2 ∧ A = A1 ++ A2
  | _, _, _ => False
end

/-- neither a tuple nor untracked -/
def Ownd (o : HO) : Prop := ∀ xs, tpOf o ≠ some xs

structure GS (F H : Hp) (A : List Addr) : Prop where
  sub : Same F H
  nd : A.Nodup
  off : ∀ a ∈ A, F a = none
  own : ∀ a ∈ A, ∃ o, H a = some o ∧ Ownd o
structure Stp (A : List Addr) (F H : Hp) (A' : List Addr) (F' H' : Hp) : Prop where
  ff : Same F F'
  keep : ∀ a o, H a = some o → a ∉ A → H' a = some o
  own : ∀ a ∈ A', a ∈ A ∨ H a = none
  new : ∀ a o, F' a = some o → F a = some o ∨ a ∈ A ∨ H a = none ∨ ∃ xs, tpOf o = some xs

theorem Same.tupAt {K : PySem.W.Frag} {H H' : Hp} {a : Addr} {xs : List V} (e : Same H H') (h : TupAt K H a xs) : TupAt K H' a xs := h.elim (fun ⟨u, h, z⟩ => .inl ⟨u, e _ _ h, z⟩) .inr

section
variable {K : PySem.W.Frag} {w : World}
mutual
theorem RepD.mono {F F' : Hp} (e : Same F F') : ∀ {d : D} {x : V}, RepD K w F x d → RepD K w F' x d
  | .none, _, h => by simpa only [RepD] using h
  | .bool _, _, h => by simpa only [RepD] using h
  | .int _, _, h => by simpa only [RepD] using h
  | .str _, _, h => by simpa only [RepD] using h
  | .tuple ds, _, h => by
    simp only [RepD] at h ⊢
    obtain ⟨a, vs, h1, h2, h3⟩ := h
    exact ⟨a, vs, h1, Same.tupAt e h2, RepDs.mono e h3⟩
  | .list ds, _, h => by
    simp only [RepD] at h ⊢
    obtain ⟨a, vs, h1, h2, h3⟩ := h
    exact ⟨a, vs, h1, e _ _ h2, RepDs.mono e h3⟩
  | .dict kvs, _, h => by
    simp only [RepD] at h ⊢
    obtain ⟨a, vs, h1, h2, h4, h3⟩ := h
    exact ⟨a, vs, h1, e _ _ h2, h4, RepKs.mono e h3⟩
theorem RepDs.mono {F F' : Hp} (e : Same F F') : ∀ {ds : List D} {xs : List V}, RepDs K w F xs ds → RepDs K w F' xs ds
  | [], [], h => trivial
  | [], _ :: _, h => by simp only [RepDs] at h
  | _ :: _, [], h => by simp only [RepDs] at h
  | d :: ds, x :: xs, h => by
    simp only [RepDs] at h ⊢
    exact ⟨RepD.mono e h.1, RepDs.mono e h.2⟩
theorem RepKs.mono {F F' : Hp} (e : Same F F') : ∀ {kvs : List (D × D)} {ns : List En}, RepKs K w F ns kvs → RepKs K w F' ns kvs
  | [], [], h => trivial
  | [], _ :: _, h => by simp only [RepKs] at h
  | _ :: _, [], h => by simp only [RepKs] at h
  | (a, b) :: kvs, n :: ns, h => by
    simp only [RepKs] at h ⊢
    exact ⟨⟨h.1.1, RepD.mono e h.1.2.1, RepD.mono e h.1.2.2⟩, RepKs.mono e h.2⟩
end

theorem RepKy.mono {F F' : Hp} (e : Same F F') : ∀ {ks : List D} {ns : List En}, RepKy K w F ns ks → RepKy K w F' ns ks
  | [], [], h => trivial
  | [], _ :: _, h => by simp only [RepKy] at h
  | _ :: _, [], h => by simp only [RepKy] at h
  | a :: kvs, n :: ns, h => by
    simp only [RepKy] at h ⊢
    exact ⟨⟨h.1.1, h.1.2.mono e⟩, RepKy.mono e h.2⟩
theorem RepKy.length {F : Hp} : ∀ {ks : List D} {ns : List En}, RepKy K w F ns ks → ns.length = ks.length
  | [], [], h => rfl
  | [], _ :: _, h => by simp only [RepKy] at h
  | _ :: _, [], h => by simp only [RepKy] at h
  | a :: kvs, n :: ns, h => by
    simp only [RepKy] at h
    rw [List.length_cons, List.length_cons, RepKy.length h.2]
theorem RepKy.zip {F : Hp} : ∀ {ks ds : List D} {ns : List En}, RepKy K w F ns ks → RepDs K w F (ns.map En.v) ds → RepKs K w F ns (ks.zip ds)
  | [], _, [], h, _ => trivial
  | [], _, _ :: _, h, _ => by simp only [RepKy] at h
  | _ :: _, _, [], h, _ => by simp only [RepKy] at h
  | _ :: _, [], _ :: _, _, g => by simp only [List.map_cons, RepDs] at g
  | a :: kvs, d :: ds, n :: ns, h, g => by
    simp only [RepKy] at h
    simp only [List.map_cons, RepDs] at g
    simp only [List.zip_cons_cons, RepKs]
    exact ⟨⟨h.1.1, h.1.2, g.1⟩, RepKy.zip h.2 g.2⟩
theorem zip_keys : ∀ {ks ds : List D}, ks.length = ds.length → (ks.zip ds).map (fun p => keyOf p.1) = ks.map keyOf
  | [], _, _ => rfl
  | _ :: _, [], h => by cases h
  | a :: ks, d :: ds, h => by
    rw [List.zip_cons_cons, List.map_cons, List.map_cons, zip_keys (Nat.succ.inj h)]
theorem RepDs.length {F : Hp} : ∀ {ds : List D} {xs : List V}, RepDs K w F xs ds → xs.length = ds.length
  | [], [], h => rfl
  | [], _ :: _, h => by simp only [RepDs] at h
  | _ :: _, [], h => by simp only [RepDs] at h
  | d :: ds, x :: xs, h => by
    simp only [RepDs] at h
    simp [RepDs.length h.2]
theorem RepDs.app {F : Hp} : ∀ {ds es : List D} {xs ys : List V}, RepDs K w F xs ds → RepDs K w F ys es → RepDs K w F (xs ++ ys) (ds ++ es)
  | [], _, [], _, h, g => g
  | [], _, _ :: _, _, h, _ => by simp only [RepDs] at h
  | _ :: _, _, [], _, h, _ => by simp only [RepDs] at h
  | d :: ds, _, x :: xs, _, h, g => by
    simp only [RepDs] at h
    simp only [List.cons_append, RepDs]
    exact ⟨h.1, RepDs.app h.2 g⟩
theorem RepDs.get {F : Hp} : ∀ {ds : List D} {xs : List V} {i : Nat} {d : D}, RepDs K w F xs ds → ds[i]? = some d → ∃ x, xs[i]? = some x ∧ RepD K w F x d
  | [], _, _, _, _, e => by simp at e
  | _ :: _, [], _, _, h, _ => by simp only [RepDs] at h
  | d :: ds, x :: xs, 0, e', h, e => by
    simp only [RepDs] at h
    simp at e
    subst e
    exact ⟨x, rfl, h.1⟩
  | d :: ds, x :: xs, i + 1, e', h, e => by
    simp only [RepDs] at h
    obtain ⟨y, h1, h2⟩ := RepDs.get (i := i) h.2 (by simpa using e)
    exact ⟨y, by simpa using h1, h2⟩
theorem RepDs.getV {F : Hp} : ∀ {ds : List D} {xs : List V} {i : Nat} {x : V}, RepDs K w F xs ds → xs[i]? = some x → ∃ d, ds[i]? = some d ∧ RepD K w F x d
  | [], [], _, _, _, e => by simp at e
  | [], _ :: _, _, _, h, _ => by simp only [RepDs] at h
  | _ :: _, [], _, _, h, _ => by simp only [RepDs] at h
  | d :: ds, x :: xs, 0, e', h, e => by
    simp only [RepDs] at h
    simp at e
    subst e
    exact ⟨d, rfl, h.1⟩
  | d :: ds, x :: xs, i + 1, e', h, e => by
    simp only [RepDs] at h
    obtain ⟨y, h1, h2⟩ := RepDs.getV (i := i) h.2 (by simpa using e)
    exact ⟨y, by simpa using h1, h2⟩
theorem RepDs.take {F : Hp} : ∀ {ds : List D} {xs : List V} (n : Nat), RepDs K w F xs ds → RepDs K w F (xs.take n) (ds.take n)
  | _, _, 0, _ => by simp only [List.take_zero, RepDs]
  | [], [], n + 1, h => by simp only [List.take_nil, RepDs]
  | [], _ :: _, _, h => by simp only [RepDs] at h
  | _ :: _, [], _, h => by simp only [RepDs] at h
  | d :: ds, x :: xs, n + 1, h => by
    simp only [RepDs] at h
    simp only [List.take_succ_cons, RepDs]
    exact ⟨h.1, RepDs.take n h.2⟩
theorem RepDs.drop {F : Hp} : ∀ {ds : List D} {xs : List V} (n : Nat), RepDs K w F xs ds → RepDs K w F (xs.drop n) (ds.drop n)
  | _, _, 0, h => h
  | [], [], n + 1, h => h
  | [], _ :: _, _, h => by simp only [RepDs] at h
  | _ :: _, [], _, h => by simp only [RepDs] at h
  | d :: ds, x :: xs, n + 1, h => by
    simp only [RepDs] at h
    simp only [List.drop_succ_cons]
    exact RepDs.drop n h.2
theorem RepDs.set {F : Hp} {y : V} {e : D} (r : RepD K w F y e) : ∀ {ds : List D} {xs : List V} (n : Nat), RepDs K w F xs ds → RepDs K w F (xs.set n y) (ds.set n e)
  | [], [], _, h => h
  | [], _ :: _, _, h => by simp only [RepDs] at h
  | _ :: _, [], _, h => by simp only [RepDs] at h
  | d :: ds, x :: xs, 0, h => by
    simp only [RepDs] at h
    simp only [List.set_cons_zero, RepDs]
    exact ⟨r, h.2⟩
  | d :: ds, x :: xs, n + 1, h => by
    simp only [RepDs] at h
    simp only [List.set_cons_succ, RepDs]
    exact ⟨h.1, RepDs.set r n h.2⟩
theorem RepDs.rev {F : Hp} : ∀ {ds : List D} {xs : List V}, RepDs K w F xs ds → RepDs K w F xs.reverse ds.reverse
  | [], [], h => h
  | [], _ :: _, h => by simp only [RepDs] at h
  | _ :: _, [], h => by simp only [RepDs] at h
  | d :: ds, x :: xs, h => by
    simp only [RepDs] at h
    simp only [List.reverse_cons]
    refine RepDs.app (RepDs.rev h.2) ?_
    simp only [RepDs]
    exact ⟨h.1, trivial⟩

/-! ### owned things -/
mutual
theorem RM.ownd {F H : Hp} : ∀ {m : M} {x : V} {A : List Addr}, RM K w F H x m A → ∀ a ∈ A, ∃ o, H a = some o ∧ Ownd o
  | .d _, _, _, h, a, ha => by
    simp only [RM] at h
    rw [h.2] at ha
    cases ha
  | .v _, _, _, h, a, ha => by
    simp only [RM] at h
    obtain ⟨b, vs, _, hb, _, rfl⟩ := h
    simp only [List.mem_singleton] at ha
    subst ha
    exact ⟨_, hb, fun xs e => by cases e⟩
  | .l ms, _, _, h, a, ha => by
    simp only [RM] at h
    obtain ⟨b, vs, B, _, hb, hs, rfl⟩ := h
    rcases List.mem_cons.mp ha with rfl | ha
    · exact ⟨_, hb, fun xs e => by cases e⟩
    · exact RMs.ownd hs a ha
  | .m _, _, _, h, a, ha => by
    simp only [RM] at h
    obtain ⟨b, vs, _, hb, _, _, rfl⟩ := h
    simp only [List.mem_singleton] at ha
    subst ha
    exact ⟨_, hb, fun xs e => by unfold dctO at e; cases e⟩
  | .s _, _, _, h, a, ha => by
    simp only [RM] at h
    obtain ⟨b, vs, _, _, _, rfl⟩ := h
    cases ha
  | .t _, _, _, h, a, ha => by
    simp only [RM] at h
    obtain ⟨b, vs, o, _, _, _, _, rfl⟩ := h
    cases ha
  | .g ks ms, _, _, h, a, ha => by
    simp only [RM] at h
    obtain ⟨b, vs, B, _, hb, _, _, hs, rfl⟩ := h
    rcases List.mem_cons.mp ha with rfl | ha
    · exact ⟨_, hb, fun xs e => by unfold dctO at e; cases e⟩
    · exact RMs.ownd hs a ha
theorem RMs.ownd {F H : Hp} : ∀ {ms : List M} {xs : List V} {A : List Addr}, RMs K w F H xs ms A → ∀ a ∈ A, ∃ o, H a = some o ∧ Ownd o
  | [], [], _, h, a, ha => by
    simp only [RMs] at h
    rw [h] at ha
    cases ha
  | [], _ :: _, _, h, _, _ => by simp only [RMs] at h
  | _ :: _, [], _, h, _, _ => by simp only [RMs] at h
  | m :: ms, x :: xs, _, h, a, ha => by
    simp only [RMs] at h
    obtain ⟨A1, A2, h1, h2, rfl⟩ := h
    rcases List.mem_append.mp ha with ha | ha
    · exact RM.ownd h1 a ha
    · exact RMs.ownd h2 a ha
end
theorem RS.ownd {F H : Hp} : ∀ {ms : List (Option M)} {xs : List (Option V)} {A : List Addr}, RS K w F H xs ms A → ∀ a ∈ A, ∃ o, H a = some o ∧ Ownd o
  | [], [], _, h, a, ha => by
    simp only [RS] at h
    rw [h] at ha
    cases ha
  | [], _ :: _, _, h, _, _ => by simp only [RS] at h
  | _ :: _, [], _, h, _, _ => by simp only [RS] at h
  | none :: ms, x :: xs, _, h, a, ha => by
    simp only [RS] at h
    exact RS.ownd h a ha
  | some m :: ms, x :: xs, _, h, a, ha => by
    simp only [RS] at h
    obtain ⟨u, A1, A2, _, h1, h2, rfl⟩ := h
    rcases List.mem_append.mp ha with ha | ha
    · exact RM.ownd h1 a ha
    · exact RS.ownd h2 a ha

mutual
/-- its own objects are kept, the frozen part grows -/
theorem RM.keep {F H F' H' : Hp} (e : Same F F') : ∀ {m : M} {x : V} {A : List Addr}, RM K w F H x m A → (∀ a ∈ A, H' a = H a) → RM K w F' H' x m A
  | .d _, _, _, h, _ => by
    simp only [RM] at h ⊢
    exact ⟨h.1.mono e, h.2⟩
  | .v _, _, _, h, k => by
    simp only [RM] at h ⊢
    obtain ⟨b, vs, h1, hb, h2, rfl⟩ := h
    exact ⟨b, vs, h1, by rw [k b (List.mem_singleton.mpr rfl)]; exact hb, h2.mono e, rfl⟩
  | .l ms, _, _, h, k => by
    simp only [RM] at h ⊢
    obtain ⟨b, vs, B, h1, hb, hs, rfl⟩ := h
    exact ⟨b, vs, B, h1, by rw [k b List.mem_cons_self]; exact hb, RMs.keep e hs fun a ha => k a (List.mem_cons_of_mem _ ha), rfl⟩
  | .m _, _, _, h, k => by
    simp only [RM] at h ⊢
    obtain ⟨b, vs, h1, hb, h3, h2, rfl⟩ := h
    exact ⟨b, vs, h1, by rw [k b (List.mem_singleton.mpr rfl)]; exact hb, h3, h2.mono e, rfl⟩
  | .s _, _, _, h, k => by
    simp only [RM] at h ⊢
    obtain ⟨b, vs, h1, hb, h2, rfl⟩ := h
    exact ⟨b, vs, h1, e.seq hb, h2.mono e, rfl⟩
  | .t _, _, _, h, k => by
    simp only [RM] at h ⊢
    obtain ⟨b, vs, o, h1, hb, hd, h2, rfl⟩ := h
    exact ⟨b, vs, o, h1, e _ _ hb, hd, h2.mono e, rfl⟩
  | .g ks ms, _, _, h, k => by
    simp only [RM] at h ⊢
    obtain ⟨b, vs, B, h1, hb, h2, h3, hs, rfl⟩ := h
    exact ⟨b, vs, B, h1, by rw [k b List.mem_cons_self]; exact hb, h2, h3.mono e, RMs.keep e hs fun a ha => k a (List.mem_cons_of_mem _ ha), rfl⟩
theorem RMs.keep {F H F' H' : Hp} (e : Same F F') : ∀ {ms : List M} {xs : List V} {A : List Addr}, RMs K w F H xs ms A → (∀ a ∈ A, H' a = H a) → RMs K w F' H' xs ms A
  | [], [], _, h, _ => by simpa only [RMs] using h
  | [], _ :: _, _, h, _ => by simp only [RMs] at h
  | _ :: _, [], _, h, _ => by simp only [RMs] at h
  | m :: ms, x :: xs, _, h, k => by
    simp only [RMs] at h ⊢
    obtain ⟨A1, A2, h1, h2, rfl⟩ := h
    exact ⟨A1, A2, RM.keep e h1 fun a ha => k a (List.mem_append_left _ ha), RMs.keep e h2 fun a ha => k a (List.mem_append_right _ ha), rfl⟩
end
theorem RS.keep {F H F' H' : Hp} (e : Same F F') : ∀ {ms : List (Option M)} {xs : List (Option V)} {A : List Addr}, RS K w F H xs ms A → (∀ a ∈ A, H' a = H a) → RS K w F' H' xs ms A
  | [], [], _, h, _ => by simpa only [RS] using h
  | [], _ :: _, _, h, _ => by simp only [RS] at h
  | _ :: _, [], _, h, _ => by simp only [RS] at h
  | none :: ms, x :: xs, _, h, k => by
    simp only [RS] at h ⊢
    exact RS.keep e h k
  | some m :: ms, x :: xs, _, h, k => by
    simp only [RS] at h ⊢
    obtain ⟨u, A1, A2, hx, h1, h2, rfl⟩ := h
    exact ⟨u, A1, A2, hx, RM.keep e h1 fun a ha => k a (List.mem_append_left _ ha), RS.keep e h2 fun a ha => k a (List.mem_append_right _ ha), rfl⟩

/-! ### forgetting what is owned -/
mutual
def M.data : M → D
  | .d x => x
  | .v xs => .list xs
  | .l ms => .list (M.datas ms)
  | .m kvs => .dict kvs
  | .s _ => .none
  | .t xs => .tuple xs
  | .g ks ms => .dict (ks.zip (M.datas ms))
def M.datas : List M → List D
  | [] => []
  | y :: ys => M.data y :: M.datas ys
end

/-- F with what stands in H at A, and H's tuples -/
def frz (F H : Hp) (A : List Addr) : Hp := fun a => match F a with
  | some o => some o
  | none => if a ∈ A then H a else match H a with
    | some u => if (tpOf u).isSome = true then some u else none
    | none => none
theorem frz_sub {F H : Hp} {A : List Addr} : Same F (frz F H A) := fun a o e => by unfold frz; rw [e]
theorem frz_below {F H : Hp} {A : List Addr} (s : Same F H) : Same (frz F H A) H := fun a o e => by
  unfold frz at e
  cases q : F a with
  | some u =>
    rw [q] at e
    simp only [Option.some.injEq] at e
    subst e
    exact s _ _ q
  | none =>
    rw [q] at e
    simp only at e
    by_cases ha : a ∈ A
    · rw [if_pos ha] at e
      exact e
    · rw [if_neg ha] at e
      cases hx : H a with
      | none => rw [hx] at e; cases e
      | some u =>
        rw [hx] at e
        simp only at e
        split at e
        · exact e
        · cases e
theorem frz_at {F H : Hp} {A : List Addr} {a : Addr} {o : HO} (s : Same F H) (ha : a ∈ A) (h : H a = some o) : frz F H A a = some o := by
  unfold frz
  cases q : F a with
  | some u => 
    have := s _ _ q
    rw [h] at this
    exact this.symm
  | none => simp only [if_pos ha, h]
theorem frz_off {F H : Hp} {A : List Addr} {a : Addr} {o : HO} (hf : F a = none) (ha : a ∉ A) (h : H a = some o) (t : Ownd o) : frz F H A a = none := by
  unfold frz
  rw [hf]
  simp only [if_neg ha, h]
  rw [if_neg]
  intro z
  obtain ⟨xs, hx⟩ := Option.isSome_iff_exists.mp z
  exact t xs hx
mutual
/-- the script is none -/
def M.fine : M → Bool
  | .d _ => true
  | .v _ => true
  | .l ms => M.fines ms
  | .m _ => true
  | .s _ => false
  | .t _ => true
  | .g _ ms => M.fines ms
def M.fines : List M → Bool
  | [] => true
  | y :: ys => M.fine y && M.fines ys
end
mutual
theorem RM.freeze {F H G : Hp} : ∀ {m : M} {x : V} {A : List Addr}, RM K w F H x m A → m.fine = true → Same F G → (∀ a ∈ A, G a = H a) → RepD K w G x m.data
  | .s _, _, _, _, hf, _, _ => by simp only [M.fine, Bool.false_eq_true] at hf
  | .d _, _, _, h, _, e, _ => by
    simp only [RM] at h
    exact h.1.mono e
  | .v _, _, _, h, _, e, k => by
    simp only [RM] at h
    obtain ⟨b, vs, h1, hb, h2, rfl⟩ := h
    simp only [M.data, RepD]
    exact ⟨b, vs, h1, by rw [k b (List.mem_singleton.mpr rfl)]; exact hb, h2.mono e⟩
  | .l ms, _, _, h, hf, e, k => by
    simp only [RM] at h
    obtain ⟨b, vs, B, h1, hb, hs, rfl⟩ := h
    simp only [M.data, RepD]
    exact ⟨b, vs, h1, by rw [k b List.mem_cons_self]; exact hb, RMs.freeze hs (by simpa only [M.fine] using hf) e fun a ha => k a (List.mem_cons_of_mem _ ha)⟩
  | .m _, _, _, h, _, e, k => by
    simp only [RM] at h
    obtain ⟨b, vs, h1, hb, h3, h2, rfl⟩ := h
    simp only [M.data, RepD]
    exact ⟨b, vs, h1, by rw [k b (List.mem_singleton.mpr rfl)]; exact hb, h3, h2.mono e⟩
  | .t _, _, _, h, _, e, k => by
    simp only [RM] at h
    obtain ⟨b, vs, o, h1, hb, hd, h2, rfl⟩ := h
    simp only [M.data, RepD]
    exact ⟨b, vs, h1, .inl ⟨_, e _ _ hb, rfl⟩, h2.mono e⟩
  | .g ks ms, _, _, h, hf, e, k => by
    simp only [RM] at h
    obtain ⟨b, vs, B, h1, hb, h2, h3, hs, rfl⟩ := h
    have hs2 := RMs.freeze hs (by simpa only [M.fine] using hf) e fun a ha => k a (List.mem_cons_of_mem _ ha)
    simp only [M.data, RepD]
    refine ⟨b, vs, h1, by rw [k b List.mem_cons_self]; exact hb, ?_, (h3.mono e).zip hs2⟩
    rw [zip_keys (by rw [← h3.length, ← hs2.length, List.length_map])]
    exact h2
theorem RMs.freeze {F H G : Hp} : ∀ {ms : List M} {xs : List V} {A : List Addr}, RMs K w F H xs ms A → M.fines ms = true → Same F G → (∀ a ∈ A, G a = H a) → RepDs K w G xs (M.datas ms)
  | [], [], _, h, _, _, _ => by simp only [M.datas, RepDs]
  | [], _ :: _, _, h, _, _, _ => by simp only [RMs] at h
  | _ :: _, [], _, h, _, _, _ => by simp only [RMs] at h
  | m :: ms, x :: xs, _, h, hf, e, k => by
    simp only [RMs] at h
    obtain ⟨A1, A2, h1, h2, rfl⟩ := h
    rw [M.fines, Bool.and_eq_true] at hf
    simp only [M.datas, RepDs]
    exact ⟨RM.freeze h1 hf.1 e fun a ha => k a (List.mem_append_left _ ha), RMs.freeze h2 hf.2 e fun a ha => k a (List.mem_append_right _ ha)⟩
end
/-- what is owned may be read -/
theorem RM.read {F H : Hp} {m : M} {x : V} {A : List Addr} (h : RM K w F H x m A) (hf : m.fine = true) (s : Same F H) : RepD K w H x m.data := h.freeze hf s fun _ _ => rfl
theorem RM.frz {F H : Hp} {m : M} {x : V} {A : List Addr} (h : RM K w F H x m A) (hf : m.fine = true) (s : Same F H) : RepD K w (frz F H A) x m.data :=
  h.freeze hf frz_sub fun a ha => by
    obtain ⟨o, ho, _⟩ := h.ownd a ha
    rw [ho]
    exact frz_at s ha ho

/-! ### transitions -/
theorem Stp.refl {A : List Addr} {F H : Hp} : Stp A F H A F H := ⟨Same.refl F, fun _ _ h _ => h, fun _ h => .inl h, fun _ _ h => .inl h⟩
theorem Stp.trans {A A1 A2 : List Addr} {F H F1 H1 F2 H2 : Hp} (a : Stp A F H A1 F1 H1) (b : Stp A1 F1 H1 A2 F2 H2) : Stp A F H A2 F2 H2 := by
  have up : ∀ x, x ∈ A1 ∨ H1 x = none → x ∈ A ∨ H x = none := fun x h => by
    rcases h with h | h
    · exact a.own x h
    · cases q : H x with
      | none => exact .inr rfl
      | some o =>
        by_cases hx : x ∈ A
        · exact .inl hx
        · rw [a.keep x o q hx] at h
          cases h
  refine ⟨a.ff.trans b.ff, fun x o h hx => ?_, fun x hx => ?_, fun x o h => ?_⟩
  · refine b.keep x o (a.keep x o h hx) fun h1 => ?_
    rcases a.own x h1 with h2 | h2
    · exact hx h2
    · rw [h] at h2
      cases h2
  · exact up x (b.own x hx)
  · rcases b.new x o h with h | h | h | h
    · exact a.new x o h
    · rcases up x (.inl h) with q | q
      · exact .inr (.inl q)
      · exact .inr (.inr (.inl q))
    · rcases up x (.inr h) with q | q
      · exact .inr (.inl q)
      · exact .inr (.inr (.inl q))
    · exact .inr (.inr (.inr h))
/-- what is held beside A stays -/
structure Held (T A : List Addr) (F H : Hp) : Prop where
  ow : ∀ a ∈ T, ∃ o, H a = some o ∧ Ownd o
  off : ∀ a ∈ T, F a = none
  out : ∀ a ∈ T, a ∉ A
theorem Stp.held {A A' T : List Addr} {F H F' H' : Hp} (s : Stp A F H A' F' H') (g : Same F' H') (t : Held T A F H) : Held T A' F' H' ∧ ∀ a ∈ T, H' a = H a := by
  have k : ∀ a ∈ T, H' a = H a := fun a ha => by
    obtain ⟨o, ho, _⟩ := t.ow a ha
    rw [ho, s.keep a o ho (t.out a ha)]
  refine ⟨⟨fun a ha => ?_, fun a ha => ?_, fun a ha h => ?_⟩, k⟩
  · rw [k a ha]
    exact t.ow a ha
  · obtain ⟨o, ho, tt⟩ := t.ow a ha
    cases q : F' a with
    | none => rfl
    | some u =>
      exfalso
      rcases s.new a u q with h | h | h | ⟨xs, h⟩
      · rw [t.off a ha] at h
        cases h
      · exact t.out a ha h
      · rw [ho] at h
        cases h
      · have e := g a u q
        rw [k a ha, ho] at e
        cases e
        exact tt xs h
  · rcases s.own a h with h | h
    · exact t.out a ha h
    · obtain ⟨o, ho, _⟩ := t.ow a ha
      rw [ho] at h
      cases h
/-- .. with what is held, as one -/
theorem Stp.frame {A A' T : List Addr} {F H F' H' : Hp} (s : Stp A F H A' F' H') : Stp (T ++ A) F H (T ++ A') F' H' := by
  refine ⟨s.ff, fun a o h ha => s.keep a o h fun z => ha (List.mem_append_right _ z), fun a ha => ?_, fun a o h => ?_⟩
  · rcases List.mem_append.mp ha with ha | ha
    · exact .inl (List.mem_append_left _ ha)
    · rcases s.own a ha with h | h
      · exact .inl (List.mem_append_right _ h)
      · exact .inr h
  · rcases s.new a o h with h | h | h | h
    · exact .inl h
    · exact .inr (.inl (List.mem_append_right _ h))
    · exact .inr (.inr (.inl h))
    · exact .inr (.inr (.inr h))
theorem Stp.mem {A B A' B' : List Addr} {F H F' H' : Hp} (s : Stp A F H A' F' H') (h1 : ∀ a, a ∈ A → a ∈ B) (h2 : ∀ a, a ∈ B' → a ∈ A' ∨ a ∈ B) : Stp B F H B' F' H' := by
  refine ⟨s.ff, fun a o h ha => s.keep a o h fun z => ha (h1 a z), fun a ha => ?_, fun a o h => ?_⟩
  · rcases h2 a ha with ha | ha
    · rcases s.own a ha with h | h
      · exact .inl (h1 a h)
      · exact .inr h
    · exact .inl ha
  · rcases s.new a o h with h | h | h | h
    · exact .inl h
    · exact .inr (.inl (h1 a h))
    · exact .inr (.inr (.inl h))
    · exact .inr (.inr (.inr h))
theorem GS.held {F H : Hp} {A T : List Addr} (g : GS F H (A ++ T)) : Held T A F H :=
  ⟨fun a ha => g.own a (List.mem_append_right _ ha), fun a ha => g.off a (List.mem_append_right _ ha), fun a ha h => (List.nodup_append.mp g.nd).2.2 a h a ha rfl⟩
theorem GS.left {F H : Hp} {A T : List Addr} (g : GS F H (A ++ T)) : GS F H A :=
  ⟨g.sub, (List.nodup_append.mp g.nd).1, fun a ha => g.off a (List.mem_append_left _ ha), fun a ha => g.own a (List.mem_append_left _ ha)⟩
theorem GS.right {F H : Hp} {A T : List Addr} (g : GS F H (A ++ T)) : GS F H T :=
  ⟨g.sub, (List.nodup_append.mp g.nd).2.1, fun a ha => g.off a (List.mem_append_right _ ha), fun a ha => g.own a (List.mem_append_right _ ha)⟩
theorem GS.join {F H : Hp} {A T : List Addr} (g : GS F H A) (t : Held T A F H) (n : T.Nodup) : GS F H (A ++ T) :=
  ⟨g.sub, List.nodup_append.mpr ⟨g.nd, n, fun a ha b hb e => t.out b hb (e ▸ ha)⟩, fun a ha => (List.mem_append.mp ha).elim (g.off a) (t.off a), fun a ha => (List.mem_append.mp ha).elim (g.own a) (t.ow a)⟩
theorem GS.swap {F H : Hp} {A T : List Addr} (g : GS F H (A ++ T)) : GS F H (T ++ A) :=
  ⟨g.sub, (List.perm_append_comm.nodup_iff).mp g.nd, fun a ha => g.off a (by simpa [or_comm] using ha), fun a ha => g.own a (by simpa [or_comm] using ha)⟩
theorem GS.perm {F H : Hp} {A B : List Addr} (g : GS F H A) (p : B.Perm A) : GS F H B :=
  ⟨g.sub, p.nodup_iff.mpr g.nd, fun a ha => g.off a (p.mem_iff.mp ha), fun a ha => g.own a (p.mem_iff.mp ha)⟩

/-! ### slots -/
theorem RS.length {F H : Hp} : ∀ {ms : List (Option M)} {xs : List (Option V)} {A : List Addr}, RS K w F H xs ms A → xs.length = ms.length
  | [], [], _, h => rfl
  | [], _ :: _, _, h => by simp only [RS] at h
  | _ :: _, [], _, h => by simp only [RS] at h
  | none :: ms, x :: xs, _, h => by
    simp only [RS] at h
    simp [RS.length h]
  | some m :: ms, x :: xs, _, h => by
    simp only [RS] at h
    obtain ⟨u, A1, A2, hx, h1, h2, rfl⟩ := h
    simp [RS.length h2]
/-- a slot, and what may stand in its place -/
theorem RS.at {F H : Hp} : ∀ {ms : List (Option M)} {xs : List (Option V)} {A : List Addr} {i : Nat} {m : M}, RS K w F H xs ms A → ms[i]? = some (some m) →
    ∃ u A1 A2 A3, xs[i]? = some (some u) ∧ A = A1 ++ A2 ++ A3 ∧ RM K w F H u m A2 ∧
      (∀ (F' H' : Hp) (u' : V) (m' : M) (B : List Addr), Same F F' → (∀ a ∈ A1 ++ A3, H' a = H a) → RM K w F' H' u' m' B → RS K w F' H' (xs.set i (some u')) (ms.set i (some m')) (A1 ++ B ++ A3)) ∧
      (∀ (F' H' : Hp), Same F F' → (∀ a ∈ A1 ++ A3, H' a = H a) → RS K w F' H' xs (ms.set i none) (A1 ++ A3))
  | [], _, _, _, _, _, e => by simp at e
  | _ :: _, [], _, _, _, h, _ => by simp only [RS] at h
  | none :: ms, x :: xs, A, 0, m, h, e => by simp at e
  | none :: ms, x :: xs, A, i + 1, m, h, e => by
    simp only [RS] at h
    obtain ⟨u, A1, A2, A3, h1, h2, h3, h4, h5⟩ := RS.at (i := i) h (by simpa using e)
    exact ⟨u, A1, A2, A3, by simpa using h1, h2, h3, fun F' H' u' m' B e1 k r => by simpa only [List.set_cons_succ, RS] using h4 F' H' u' m' B e1 k r, fun F' H' e1 k => by simpa only [List.set_cons_succ, RS] using h5 F' H' e1 k⟩
  | some m0 :: ms, x :: xs, A, 0, m, h, e => by
    simp only [RS] at h
    simp at e
    subst e
    obtain ⟨u, A1, A2, hx, h1, h2, rfl⟩ := h
    subst hx
    refine ⟨u, [], A1, A2, rfl, by simp, h1, fun F' H' u' m' B e1 k r => ?_, fun F' H' e1 k => ?_⟩
    · simp only [List.set_cons_zero, RS]
      exact ⟨u', B, A2, rfl, r, h2.keep e1 (by simpa using k), by simp⟩
    · simp only [List.set_cons_zero, RS]
      simpa using h2.keep e1 (by simpa using k)
  | some m0 :: ms, x :: xs, A, i + 1, m, h, e => by
    simp only [RS] at h
    obtain ⟨u0, B1, B2, hx, g1, g2, rfl⟩ := h
    subst hx
    obtain ⟨u, A1, A2, A3, h1, h2, h3, h4, h5⟩ := RS.at (i := i) g2 (by simpa using e)
    subst h2
    refine ⟨u, B1 ++ A1, A2, A3, by simpa using h1, by simp, h3, fun F' H' u' m' B e1 k r => ?_, fun F' H' e1 k => ?_⟩
    · simp only [List.set_cons_succ, RS]
      exact ⟨u0, B1, A1 ++ B ++ A3, rfl, g1.keep e1 fun a ha => k a (by simp [ha]), h4 F' H' u' m' B e1 (fun a ha => k a (by simp only [List.append_assoc]; exact List.mem_append_right _ ha)) r, by simp⟩
    · simp only [List.set_cons_succ, RS]
      exact ⟨u0, B1, A1 ++ A3, rfl, g1.keep e1 fun a ha => k a (by simp [ha]), h5 F' H' e1 (fun a ha => k a (by simp only [List.append_assoc]; exact List.mem_append_right _ ha)), by simp⟩
/-- a slot that holds nothing known -/
theorem RS.put {F H : Hp} : ∀ {ms : List (Option M)} {xs : List (Option V)} {A : List Addr} {i : Nat}, RS K w F H xs ms A → i < ms.length →
    ∃ A1 A3, (∃ B, A = A1 ++ B ++ A3) ∧ ∀ (F' H' : Hp) (u' : V) (m' : M) (B : List Addr), Same F F' → (∀ a ∈ A1 ++ A3, H' a = H a) → RM K w F' H' u' m' B → RS K w F' H' (xs.set i (some u')) (ms.set i (some m')) (A1 ++ B ++ A3)
  | [], _, _, _, _, e => by simp at e
  | _ :: _, [], _, _, h, _ => by simp only [RS] at h
  | none :: ms, x :: xs, A, 0, h, e => by
    simp only [RS] at h
    refine ⟨[], A, ⟨[], by simp⟩, fun F' H' u' m' B e1 k r => ?_⟩
    simp only [List.set_cons_zero, RS]
    exact ⟨u', B, A, rfl, r, h.keep e1 (by simpa using k), by simp⟩
  | none :: ms, x :: xs, A, i + 1, h, e => by
    simp only [RS] at h
    obtain ⟨A1, A3, h1, h4⟩ := RS.put (i := i) h (by simpa using e)
    exact ⟨A1, A3, h1, fun F' H' u' m' B e1 k r => by simpa only [List.set_cons_succ, RS] using h4 F' H' u' m' B e1 k r⟩
  | some m0 :: ms, x :: xs, A, 0, h, e => by
    simp only [RS] at h
    obtain ⟨u, A1, A2, hx, h1, h2, rfl⟩ := h
    refine ⟨[], A2, ⟨A1, by simp⟩, fun F' H' u' m' B e1 k r => ?_⟩
    simp only [List.set_cons_zero, RS]
    exact ⟨u', B, A2, rfl, r, h2.keep e1 (by simpa using k), by simp⟩
  | some m0 :: ms, x :: xs, A, i + 1, h, e => by
    simp only [RS] at h
    obtain ⟨u0, B1, B2, hx, g1, g2, rfl⟩ := h
    subst hx
    obtain ⟨A1, A3, ⟨B0, h1⟩, h4⟩ := RS.put (i := i) g2 (by simpa using e)
    subst h1
    refine ⟨B1 ++ A1, A3, ⟨B0, by simp⟩, fun F' H' u' m' B e1 k r => ?_⟩
    simp only [List.set_cons_succ, RS]
    exact ⟨u0, B1, A1 ++ B ++ A3, rfl, g1.keep e1 fun a ha => k a (by simp [ha]), h4 F' H' u' m' B e1 (fun a ha => k a (by simp only [List.append_assoc]; exact List.mem_append_right _ ha)) r, by simp⟩
end
end Oa

/-! Part 2: results, the readings of expressions over owned things, sequences. -/
namespace Oa
open PySem PySem.Spec PyProof.Rows L2

/-- what an expression hands on: its own, or a look at what a slot owns -/
inductive Rv where
  | o (x : M)
  | b (x : M)
def Rv.m : Rv → M
  | .o x => x
  | .b x => x
abbrev Rv.data (r : Rv) : D := r.m.data
abbrev Rv.p (x : D) : Rv := .o (.d x)
def Rv.isB : Rv → Bool
  | .o _ => false
  | .b _ => true
inductive Res (α : Type) where
  | ok (a : α)
  | er (c : Str) (x : Option Int)
  | bad
def Res.bind {α β : Type} (r : Res α) (f : α → Res β) : Res β := match r with
  | .ok a => f a
  | .er c x => .er c x
  | .bad => .bad
@[simp] theorem Res.bind_ok {α β : Type} (a : α) (f : α → Res β) : (Res.ok a).bind f = f a := rfl
@[simp] theorem Res.bind_er {α β : Type} (c : Str) (x : Option Int) (f : α → Res β) : (Res.er c x).bind f = .er c x := rfl
@[simp] theorem Res.bind_bad {α β : Type} (f : α → Res β) : (Res.bad : Res α).bind f = .bad := rfl

abbrev Sl := List (Option M)
abbrev EvF := Sl → Res (Rv × Sl)
abbrev EvsF := Sl → Res (List Rv × Sl)

section
variable (K : PySem.W.Frag) (w : World)
def RR (F H : Hp) (x : V) (r : Rv) (T : List Addr) : Prop := match r with
  | .o m => RM K w F H x m T
  | .b m => T = [] ∧ ∃ B, RM K w F H x m B
def RRs (F H : Hp) : List V → List Rv → List Addr → Prop
  | [], [], T => T = []
  | x :: xs, r :: rs, T => ∃ T1 T2, RR K w F H x r T1 ∧ RRs F H xs rs T2 ∧ T = T1 ++ T2
  | _, _, _ => False

/-- behind an expression -/
def EvP (pu : Bool) (F H : Hp) (A : List Addr) (σ : L2.St) (r : Rv) (m' : Sl) (x : V) (H' : Hp) : Prop :=
  ∃ F' A' T, RS K w F' H' σ m' A' ∧ GS F' H' (A' ++ T) ∧ Stp A F H (A' ++ T) F' H' ∧ RR K w F' H' x r T ∧ (pu = true → Same H H')
def EvPs (pu : Bool) (F H : Hp) (A : List Addr) (σ : L2.St) (rs : List Rv) (m' : Sl) (xs : List V) (H' : Hp) : Prop :=
  ∃ F' A' T, RS K w F' H' σ m' A' ∧ GS F' H' (A' ++ T) ∧ Stp A F H (A' ++ T) F' H' ∧ RRs K w F' H' xs rs T ∧ (pu = true → Same H H')
/-- behind an error -/
def ErP (mg : Str → Option Value) (A : List Addr) (H : Hp) (c : Str) (x : Option Int) (cls : Value) (d : Option Addr) (H' : Hp) : Prop :=
  (∃ C, mg c = some (.ref C) ∧ cls = .ref C) ∧ (∀ a o, H a = some o → a ∉ A → H' a = some o) ∧ match x with
    | none => d = none
    | some i => ∃ dd, d = some dd ∧ H' dd = some (.xd [("most", .int i)])
variable (mg : Str → Option Value) (W : WX)
def tE (pu : Bool) (f : EvF) : TE := fun σ H Q => ∃ m F A, RS K w F H σ m A ∧ GS F H A ∧ match f m with
  | .ok (r, m') => ∀ x H', EvP K w pu F H A σ r m' x H' → Q x H'
  | .er c x => ∀ cls d H', ErP mg A H c x cls d H' → W cls d σ H'
  | .bad => False
def tAs (pu : Bool) (f : EvsF) : TA := fun σ H Q => ∃ m F A, RS K w F H σ m A ∧ GS F H A ∧ match f m with
  | .ok (rs, m') => ∀ xs H', EvPs K w pu F H A σ rs m' xs H' → Q xs H'
  | .er c x => ∀ cls d H', ErP mg A H c x cls d H' → W cls d σ H'
  | .bad => False
/-- a reading by values -/
abbrev RV := List V → Hp → VK → Prop
/-- what a primitive gives: nothing that stood is changed -/
def rP (p : List Rv → Res Rv) : RV := fun vs H Q => ∃ F T rs out, GS F H T ∧ RRs K w F H vs rs T ∧ p rs = .ok out ∧
  ∀ x F' H' T', GS F' H' T' → Stp T F H T' F' H' → Same H H' → RR K w F' H' x out T' → Q x H'
end

section
variable {K : PySem.W.Frag} {w : World} {mg : Str → Option Value} {W : WX}

theorem RR.keep {F H F' H' : Hp} {x : V} {r : Rv} {T : List Addr} (e : Same F F') (h : RR K w F H x r T) (k : ∀ a ∈ T, H' a = H a) (kb : r.isB = true → Same H H') : RR K w F' H' x r T := by
  cases r with
  | o m => exact RM.keep e h k
  | b m =>
    obtain ⟨rfl, B, hB⟩ := h
    refine ⟨rfl, B, hB.keep e fun a ha => ?_⟩
    obtain ⟨o, ho, _⟩ := hB.ownd a ha
    rw [ho, kb rfl a o ho]
theorem RR.read {F H : Hp} {x : V} {r : Rv} {T : List Addr} (h : RR K w F H x r T) (hf : r.m.fine = true) (s : Same F H) : RepD K w H x r.data := by
  cases r with
  | o m => exact RM.read h hf s
  | b m =>
    obtain ⟨_, B, hB⟩ := h
    exact RM.read hB hf s
theorem RRs.keep {F H F' H' : Hp} (e : Same F F') : ∀ {xs : List V} {rs : List Rv} {T : List Addr}, RRs K w F H xs rs T → (∀ a ∈ T, H' a = H a) → (∀ r ∈ rs, r.isB = true → Same H H') → RRs K w F' H' xs rs T
  | [], [], _, h, _, _ => by simpa only [RRs] using h
  | [], _ :: _, _, h, _, _ => by simp only [RRs] at h
  | _ :: _, [], _, h, _, _ => by simp only [RRs] at h
  | x :: xs, r :: rs, _, h, k, kb => by
    simp only [RRs] at h ⊢
    obtain ⟨T1, T2, h1, h2, rfl⟩ := h
    exact ⟨T1, T2, h1.keep e (fun a ha => k a (List.mem_append_left _ ha)) (kb r List.mem_cons_self), RRs.keep e h2 (fun a ha => k a (List.mem_append_right _ ha)) fun r hr => kb r (List.mem_cons_of_mem _ hr), rfl⟩
theorem RR.ownd {F H : Hp} {x : V} {r : Rv} {T : List Addr} (h : RR K w F H x r T) : ∀ a ∈ T, ∃ o, H a = some o ∧ Ownd o := by
  cases r with
  | o m => exact RM.ownd h
  | b m =>
    obtain ⟨rfl, _⟩ := h
    intro a ha
    cases ha

/-- ahead of an error: from a later state back -/
theorem ErP.back {A A1 : List Addr} {F H F1 H1 : Hp} {c : Str} {x : Option Int} {cls : Value} {d : Option Addr} {H' : Hp} (s : Stp A F H A1 F1 H1) (e : ErP mg A1 H1 c x cls d H') : ErP mg A H c x cls d H' := by
  obtain ⟨e1, e2, e3⟩ := e
  refine ⟨e1, fun a o h ha => e2 a o (s.keep a o h ha) fun z => ?_, e3⟩
  rcases s.own a z with q | q
  · exact ha q
  · rw [h] at q
    cases q
theorem ErP.less {A A1 : List Addr} {H : Hp} {c : Str} {x : Option Int} {cls : Value} {d : Option Addr} {H' : Hp} (s : ∀ a ∈ A1, a ∈ A) (e : ErP mg A1 H c x cls d H') : ErP mg A H c x cls d H' :=
  ⟨e.1, fun a o h ha => e.2.1 a o h fun z => ha (s a z), e.2.2⟩

/-! ### rows of expressions -/
def evsNil : EvsF := fun m => .ok ([], m)
def evsCons (pb : Bool) (fa : EvF) (fs : EvsF) : EvsF := fun m => (fa m).bind fun (r, m1) => (fs m1).bind fun (rs, m2) => if (r.isB && !pb) = true then .bad else .ok (r :: rs, m2)

theorem tAs_nil {σ : L2.St} {H : Hp} {Q : List V → Hp → Prop} {pu : Bool} (h : tAs K w mg W pu evsNil σ H Q) : Q [] H := by
  obtain ⟨m, F, A, hR, hG, h⟩ := h
  exact h [] H ⟨F, A, [], hR, by simpa using hG, by simpa using Stp.refl, rfl, fun _ => Same.refl H⟩

/-- behind the first one, the rest; what was held is carried along -/
theorem two_step {pb : Bool} {F H F1 H1 F2 H2 : Hp} {A A1 A2 T1 T2 : List Addr} {x : V} {r : Rv}
    (g1 : GS F1 H1 (A1 ++ T1)) (s1 : Stp A F H (A1 ++ T1) F1 H1) (r1 : RR K w F1 H1 x r T1) (hb : (r.isB && !pb) = false) 
    (g2 : GS F2 H2 (A2 ++ T2)) (s2 : Stp A1 F1 H1 (A2 ++ T2) F2 H2) (p2 : pb = true → Same H1 H2) :
    GS F2 H2 (A2 ++ (T1 ++ T2)) ∧ Stp A F H (A2 ++ (T1 ++ T2)) F2 H2 ∧ RR K w F2 H2 x r T1 := by
  obtain ⟨hd, hk⟩ := s2.held g2.sub g1.held
  refine ⟨?_, ?_, ?_⟩
  · refine (g2.join (T := T1) hd g1.right.nd).perm ?_
    rw [List.append_assoc]
    exact (List.perm_append_comm.append_left A2)
  · refine s1.trans (((s2.frame (T := T1)).mem (B := A1 ++ T1) (B' := A2 ++ (T1 ++ T2)) (fun a ha => ?_) fun a ha => ?_))
    · simpa [or_comm] using ha
    · left
      simp only [List.mem_append] at ha ⊢
      rcases ha with h | h | h
      · exact .inr (.inl h)
      · exact .inl h
      · exact .inr (.inr h)
  · refine r1.keep s2.ff hk fun e => p2 ?_
    rw [e] at hb
    simpa using hb

theorem tAs_cons {σ : L2.St} {H : Hp} {Q : List V → Hp → Prop} {pa pb : Bool} {fa : EvF} {fs : EvsF} (h : tAs K w mg W (pa && pb) (evsCons pb fa fs) σ H Q) :
    tE K w mg W pa fa σ H fun x H1 => tAs K w mg W pb fs σ H1 fun xs H2 => Q (x :: xs) H2 := by
  obtain ⟨m, F, A, hR, hG, h⟩ := h
  refine ⟨m, F, A, hR, hG, ?_⟩
  unfold evsCons at h
  cases e1 : fa m with
  | bad => 
    rw [e1] at h
    exact h.elim
  | er c x =>
    rw [e1] at h
    exact h
  | ok p =>
    obtain ⟨r, m1⟩ := p
    rw [e1] at h
    simp only [Res.bind_ok] at h
    show ∀ x H', EvP K w pa F H A σ r m1 x H' → _
    rintro x H1 ⟨F1, A1, T1, hR1, g1, s1, r1, p1⟩
    refine ⟨m1, F1, A1, hR1, g1.left, ?_⟩
    cases e2 : fs m1 with
    | bad => 
      rw [e2] at h
      exact h.elim
    | er c y =>
      rw [e2] at h
      show ∀ cls d H', ErP mg A1 H1 c y cls d H' → _
      intro cls d H' q
      exact h cls d H' ((q.less (A := A1 ++ T1) fun a ha => List.mem_append_left _ ha).back s1)
    | ok p =>
      obtain ⟨rs, m2⟩ := p
      rw [e2] at h
      simp only [Res.bind_ok] at h
      show ∀ xs H', EvPs K w pb F1 H1 A1 σ rs m2 xs H' → _
      rintro xs H2 ⟨F2, A2, T2, hR2, g2, s2, r2, p2⟩
      cases hb : (r.isB && !pb) with
      | true =>
        rw [hb, if_pos rfl] at h
        exact h.elim
      | false =>
        rw [hb, if_neg Bool.false_ne_true] at h
        obtain ⟨g3, s3, r3⟩ := two_step g1 s1 r1 hb g2 s2 p2
        exact h (x :: xs) H2 ⟨F2, A2, T1 ++ T2, hR2, g3, s3, ⟨T1, T2, r3, r2, rfl⟩, fun e => by
          rw [Bool.and_eq_true] at e
          exact (p1 e.1).trans (p2 e.2)⟩

/-- a primitive over a row of expressions -/
def evPrim (p : List Rv → Res Rv) (fs : EvsF) : EvF := fun m => (fs m).bind fun (rs, m1) => (p rs).bind fun r => .ok (r, m1)
/-- a primitive raises nothing -/
def Calm (p : List Rv → Res Rv) : Prop := ∀ rs c x, p rs ≠ .er c x
theorem tE_prim {σ : L2.St} {H : Hp} {Q : VK} {pu : Bool} {p : List Rv → Res Rv} {fs : EvsF} (hp : Calm p) (h : tE K w mg W pu (evPrim p fs) σ H Q) :
    tAs K w mg W pu fs σ H fun xs H1 => rP K w p xs H1 Q := by
  obtain ⟨m, F, A, hR, hG, h⟩ := h
  refine ⟨m, F, A, hR, hG, ?_⟩
  unfold evPrim at h
  cases e1 : fs m with
  | bad => 
    rw [e1] at h
    exact h.elim
  | er c x =>
    rw [e1] at h
    exact h
  | ok q =>
    obtain ⟨rs, m1⟩ := q
    rw [e1] at h
    simp only [Res.bind_ok] at h
    show ∀ xs H', EvPs K w pu F H A σ rs m1 xs H' → _
    rintro xs H1 ⟨F1, A1, T1, hR1, g1, s1, r1, p1⟩
    cases e2 : p rs with
    | bad => 
      rw [e2] at h
      exact h.elim
    | er c x => exact absurd e2 (hp rs c x)
    | ok out =>
      rw [e2] at h
      simp only [Res.bind_ok] at h
      refine ⟨F1, T1, rs, out, g1.right, r1, e2, fun x F2 H2 T2 g2 s2 k2 r2 => h x H2 ?_⟩
      have hd : Held A1 T1 F1 H1 := g1.swap.held
      obtain ⟨hd2, hk2⟩ := s2.held g2.sub hd
      refine ⟨F2, A1, T2, hR1.keep s2.ff hk2, (g2.join hd2 g1.left.nd).swap, s1.trans (s2.frame (T := A1)), r2, fun e => (p1 e).trans k2⟩
end
end Oa

/-! Part 3: what the data are in the machine's heap; the primitives. -/
namespace Oa
open PySem PySem.Spec PyProof.Rows L2

section
variable {X : Cx} {pins : List (Addr × Obj)} {σ : L2.St} {H : Hp} {s : Shared}
theorem ens_keys : ∀ {es : List DictEntry} {ns : List En}, EnsOk es ns → Vals (ns.map En.k) (es.map (·.key)) ∧ Vals (ns.map En.v) (es.map (·.val))
  | [], [], _ => ⟨.nil, .nil⟩
  | [], _ :: _, h => by simp only [EnsOk] at h
  | _ :: _, [], h => by simp only [EnsOk] at h
  | e :: es, n :: ns, h => by
    simp only [EnsOk] at h
    obtain ⟨a, b⟩ := ens_keys h.2
    exact ⟨.cons h.1.2.1 a, .cons h.1.2.2 b⟩
theorem dct_at {H : Hp} {a : Addr} {ents : Dc} (I : Inv X pins σ H s) (h : H a = some (dctO a ents)) : DctAt a ents s.heap := (I.hok a _ h).1
mutual
/-- what stands for a datum reads as it -/
theorem RepD.reads (I : Inv X pins σ H s) : ∀ (d : D) {x : V} {u : Value}, RepD X.K X.w H x d → RelV x u → ∃ as, Reads s.heap u d as
  | .none, x, u, h, r => by
    simp only [RepD] at h
    subst h
    cases r
    exact ⟨_, .none⟩
  | .bool b, x, u, h, r => by
    simp only [RepD] at h
    subst h
    cases r
    exact ⟨_, .bool b⟩
  | .int i, x, u, h, r => by
    simp only [RepD] at h
    subst h
    obtain ⟨t, rfl⟩ := r
    exact ⟨_, .int i t⟩
  | .str z, x, u, h, r => by
    simp only [RepD] at h
    subst h
    obtain ⟨t, rfl⟩ := r
    exact ⟨_, .str z t⟩
  | .tuple ds, x, u, h, r => by
    simp only [RepD] at h
    obtain ⟨a, vs, rfl, hq, hs⟩ := h
    cases r
    obtain ⟨its, rv, ⟨ob, e, c, n, dd⟩, hz⟩ := I.tuple hq.sqT
    obtain ⟨as, q⟩ := RepDs.reads I ds hs rv
    exact ⟨_, .tuple e c dd (by simpa using q)⟩
  | .list ds, x, u, h, r => by
    simp only [RepD] at h
    obtain ⟨a, vs, rfl, hq, hs⟩ := h
    cases r
    obtain ⟨its, rv, ⟨ob, n, e, c, _, dd⟩, hz⟩ := I.list (SqL.of hq)
    obtain ⟨as, q⟩ := RepDs.reads I ds hs rv
    exact ⟨_, .list e c dd (by simpa using q)⟩
  | .dict kvs, x, u, h, r => by
    simp only [RepD] at h
    obtain ⟨a, ents, rfl, hq, hn, hs⟩ := h
    cases r
    obtain ⟨ob, es, e, c, dd, k, _, _⟩ := dct_at I hq
    obtain ⟨k1, k2⟩ := ens_keys k
    obtain ⟨as, q1⟩ := RepKs.readsK I kvs hs k1
    obtain ⟨bs, q2⟩ := RepKs.readsV I kvs hs k2
    exact ⟨_, .dict e c.1 dd q1 q2⟩
theorem RepDs.reads (I : Inv X pins σ H s) : ∀ (ds : List D) {xs : List V} {us : List Value}, RepDs X.K X.w H xs ds → Vals xs us → ∃ as, ReadsAll s.heap us ds as
  | [], [], us, h, r => by
    cases r
    exact ⟨_, .nil⟩
  | [], _ :: _, us, h, r => by simp only [RepDs] at h
  | _ :: _, [], us, h, r => by simp only [RepDs] at h
  | d :: ds, x :: xs, us, h, r => by
    simp only [RepDs] at h
    cases r with
    | cons r1 r2 =>
      obtain ⟨as, q1⟩ := RepD.reads I d h.1 r1
      obtain ⟨bs, q2⟩ := RepDs.reads I ds h.2 r2
      exact ⟨_, .cons q1 q2⟩
theorem RepKs.readsK (I : Inv X pins σ H s) : ∀ (kvs : List (D × D)) {ns : List En} {us : List Value}, RepKs X.K X.w H ns kvs → Vals (ns.map En.k) us → ∃ as, ReadsAll s.heap us (kvs.map (·.1)) as
  | [], [], us, h, r => by
    cases r
    exact ⟨_, .nil⟩
  | [], _ :: _, us, h, r => by simp only [RepKs] at h
  | _ :: _, [], us, h, r => by simp only [RepKs] at h
  | (a, b) :: kvs, n :: ns, us, h, r => by
    simp only [RepKs] at h
    cases r with
    | cons r1 r2 =>
      obtain ⟨as, q1⟩ := RepD.reads I a h.1.2.1 r1
      obtain ⟨bs, q2⟩ := RepKs.readsK I kvs h.2 r2
      exact ⟨_, .cons q1 q2⟩
theorem RepKs.readsV (I : Inv X pins σ H s) : ∀ (kvs : List (D × D)) {ns : List En} {us : List Value}, RepKs X.K X.w H ns kvs → Vals (ns.map En.v) us → ∃ as, ReadsAll s.heap us (kvs.map (·.2)) as
  | [], [], us, h, r => by
    cases r
    exact ⟨_, .nil⟩
  | [], _ :: _, us, h, r => by simp only [RepKs] at h
  | _ :: _, [], us, h, r => by simp only [RepKs] at h
  | (a, b) :: kvs, n :: ns, us, h, r => by
    simp only [RepKs] at h
    cases r with
    | cons r1 r2 =>
      obtain ⟨as, q1⟩ := RepD.reads I b h.1.2.2 r1
      obtain ⟨bs, q2⟩ := RepKs.readsV I kvs h.2 r2
      exact ⟨_, .cons q1 q2⟩
end
end

/-! ### endings -/
section
variable {K : PySem.W.Frag} {w : World}
/-- what a primitive's end gives -/
abbrev PEnd (K : PySem.W.Frag) (w : World) (F H : Hp) (T : List Addr) (out : Rv) (Q : VK) : Prop :=
  ∀ x F' H' T', GS F' H' T' → Stp T F H T' F' H' → Same H H' → RR K w F' H' x out T' → Q x H'
theorem gs_nil {F H : Hp} (s : Same F H) : GS F H [] := ⟨s, List.nodup_nil, fun _ h => (by cases h), fun _ h => (by cases h)⟩
theorem end_flat {F H : Hp} {T : List Addr} {d : D} {Q : VK} {x : V} (g : GS F H T) (e : PEnd K w F H T (.p d) Q) (r : RepD K w F x d) : Q x H :=
  e x F H [] (gs_nil g.sub) ⟨Same.refl _, fun _ _ h _ => h, fun _ h => (by cases h), fun _ _ h => .inl h⟩ (Same.refl _) (show RM K w F H x (.d d) [] by simp only [RM]; exact ⟨r, trivial⟩)
theorem same_new {H : Hp} {p : Addr} {o : HO} (h : H p = none) : Same H (upd H p o) := fun b u e => by
  rw [upd_ne (ne_of_none e h)]
  exact e
theorem end_list {F H : Hp} {T : List Addr} {ds : List D} {vs : List V} {Q : VK} {p : Addr} (g : GS F H T) (e : PEnd K w F H T (.o (.v ds)) Q) (r : RepDs K w F vs ds) (hp : H p = none) : Q (.ref p) (upd H p (.lst vs)) := by
  have fp : F p = none := g.sub.free hp
  refine e (.ref p) F (upd H p (.lst vs)) [p] ⟨g.sub.trans (same_new hp), by simp, fun a ha => ?_, fun a ha => ?_⟩ ⟨Same.refl _, fun a o h _ => same_new hp a o h, fun a ha => ?_, fun _ _ h => .inl h⟩ (same_new hp) ?_
  · rw [List.mem_singleton] at ha
    rw [ha]
    exact fp
  · rw [List.mem_singleton] at ha
    subst ha
    exact ⟨_, upd_same, fun xs z => by cases z⟩
  · rw [List.mem_singleton] at ha
    exact .inr (ha ▸ hp)
  · show RM K w F _ _ (.v ds) [p]
    simp only [RM]
    exact ⟨p, vs, rfl, upd_same, r, rfl⟩
theorem end_tup {F H : Hp} {T : List Addr} {ds : List D} {vs : List V} {Q : VK} {p : Addr} (g : GS F H T) (e : PEnd K w F H T (.p (.tuple ds)) Q) (r : RepDs K w F vs ds) (hp : H p = none) : Q (.ref p) (upd H p (.tup vs)) := by
  have fp : F p = none := g.sub.free hp
  have sf : Same F (upd F p (.tup vs)) := same_new fp
  have sub : Same (upd F p (.tup vs)) (upd H p (.tup vs)) := fun a o h => by
    by_cases ha : a = p
    · subst ha
      rw [upd_same] at h ⊢
      exact h
    · rw [upd_ne ha] at h ⊢
      exact g.sub a o h
  refine e (.ref p) (upd F p (.tup vs)) (upd H p (.tup vs)) [] (gs_nil sub) ⟨sf, fun a o h _ => same_new hp a o h, fun a ha => (by cases ha), fun a o h => ?_⟩ (same_new hp) ?_
  · by_cases ha : a = p
    · exact .inr (.inr (.inl (ha ▸ hp)))
    · rw [upd_ne ha] at h
      exact .inl h
  · show RM K w (upd F p (.tup vs)) (upd H p (.tup vs)) _ (.d (.tuple ds)) []
    simp only [RM, RepD]
    exact ⟨⟨p, vs, rfl, .inl ⟨_, upd_same, rfl⟩, r.mono sf⟩, trivial⟩

/-- a tuple whose object is known -/
theorem end_tupK {F H : Hp} {T : List Addr} {ds : List D} {vs : List V} {o : Obj} {Q : VK} {p : Addr} (g : GS F H T) (e : PEnd K w F H T (.o (.t ds)) Q) (r : RepDs K w F vs ds) (hp : H p = none) (hd : o.dict = none) : Q (.ref p) (upd H p (.frz o (.tup vs))) := by
  have fp : F p = none := g.sub.free hp
  have sf : Same F (upd F p (.frz o (.tup vs))) := same_new fp
  have sub : Same (upd F p (.frz o (.tup vs))) (upd H p (.frz o (.tup vs))) := fun a o h => by
    by_cases ha : a = p
    · subst ha
      rw [upd_same] at h ⊢
      exact h
    · rw [upd_ne ha] at h ⊢
      exact g.sub a o h
  refine e (.ref p) (upd F p (.frz o (.tup vs))) (upd H p (.frz o (.tup vs))) [] (gs_nil sub) ⟨sf, fun a o h _ => same_new hp a o h, fun a ha => (by cases ha), fun a o h => ?_⟩ (same_new hp) ?_
  · by_cases ha : a = p
    · exact .inr (.inr (.inl (ha ▸ hp)))
    · rw [upd_ne ha] at h
      exact .inl h
  · show RM K w (upd F p (.frz o (.tup vs))) (upd H p (.frz o (.tup vs))) _ (.t ds) []
    simp only [RM]
    exact ⟨p, vs, o, rfl, upd_same, hd, r.mono sf, trivial⟩

/-! ### operands -/
/-- the items of a list or tuple that are pure; true: a tuple -/
def M.items : M → Option (Bool × List D)
  | .d (.list ds) => some (false, ds)
  | .d (.tuple ds) => some (true, ds)
  | .v ds => some (false, ds)
  | .t ds => some (true, ds)
  | _ => none
theorem RR.lst {F H : Hp} {x : V} {r : Rv} {T : List Addr} {ds : List D} (h : RR K w F H x r T) (s : Same F H) (e : r.m.items = some (false, ds)) : ∃ a vs, x = .ref a ∧ H a = some (.lst vs) ∧ RepDs K w F vs ds := by
  have go : ∀ {m : M} {A : List Addr}, RM K w F H x m A → m.items = some (false, ds) → ∃ a vs, x = .ref a ∧ H a = some (.lst vs) ∧ RepDs K w F vs ds := fun {m A} h e => by
    cases m with
    | d y =>
      cases y with
      | list es =>
        simp only [M.items, Option.some.injEq, Prod.mk.injEq, true_and] at e
        subst e
        simp only [RM, RepD] at h
        obtain ⟨⟨a, vs, h1, h2, h3⟩, _⟩ := h
        exact ⟨a, vs, h1, s _ _ h2, h3⟩
      | _ => simp [M.items] at e
    | v es =>
      simp only [M.items, Option.some.injEq, Prod.mk.injEq, true_and] at e
      subst e
      simp only [RM] at h
      obtain ⟨a, vs, h1, h2, h3, _⟩ := h
      exact ⟨a, vs, h1, h2, h3⟩
    | _ => simp [M.items] at e
  cases r with
  | o m => exact go h e
  | b m =>
    obtain ⟨_, B, h⟩ := h
    exact go h e
theorem RR.tup {F H : Hp} {x : V} {r : Rv} {T : List Addr} {ds : List D} (h : RR K w F H x r T) (e : r.m.items = some (true, ds)) : ∃ a vs, x = .ref a ∧ TupAt K F a vs ∧ RepDs K w F vs ds ∧ RepD K w F x (.tuple ds) := by
  have go : ∀ {m : M} {A : List Addr}, RM K w F H x m A → m.items = some (true, ds) → ∃ a vs, x = .ref a ∧ TupAt K F a vs ∧ RepDs K w F vs ds ∧ RepD K w F x (.tuple ds) := fun {m A} h e => by
    cases m with
    | d y =>
      cases y with
      | tuple es =>
        simp only [M.items, Option.some.injEq, Prod.mk.injEq, true_and] at e
        subst e
        simp only [RM] at h
        have h0 := h.1
        simp only [RepD] at h
        obtain ⟨⟨a, vs, h1, h2, h3⟩, _⟩ := h
        exact ⟨a, vs, h1, h2, h3, h0⟩
      | _ => simp [M.items] at e
    | t es =>
      simp only [M.items, Option.some.injEq, Prod.mk.injEq, true_and] at e
      subst e
      simp only [RM] at h
      obtain ⟨a, vs, o, h1, h2, _, h3, _⟩ := h
      have h4 : TupAt K F a vs := .inl ⟨_, h2, rfl⟩
      refine ⟨a, vs, h1, h4, h3, ?_⟩
      simp only [RepD]
      exact ⟨a, vs, h1, h4, h3⟩
    | _ => simp [M.items] at e
  cases r with
  | o m => exact go h e
  | b m =>
    obtain ⟨_, B, h⟩ := h
    exact go h e
/-- a number, a truth value, a text -/
def M.int? : M → Option Int
  | .d (.int i) => some i
  | _ => none
def M.bl? : M → Option Bool
  | .d (.bool i) => some i
  | _ => none
def M.str? : M → Option Str
  | .d (.str i) => some i
  | _ => none
theorem RR.pure {F H : Hp} {x : V} {r : Rv} {T : List Addr} {d : D} (h : RR K w F H x r T) (e : r.m = .d d) : RepD K w F x d := by
  cases r with
  | o m =>
    simp only [Rv.m] at e
    subst e
    simp only [RR, RM] at h
    exact h.1
  | b m =>
    simp only [Rv.m] at e
    subst e
    simp only [RR, RM] at h
    obtain ⟨_, B, h, _⟩ := h
    exact h
theorem M.int_eq {m : M} {i : Int} (e : m.int? = some i) : m = .d (.int i) := by
  cases m with
  | d y => cases y with
    | int j => simp only [M.int?, Option.some.injEq] at e; rw [e]
    | _ => simp [M.int?] at e
  | _ => simp [M.int?] at e
theorem M.bl_eq {m : M} {i : Bool} (e : m.bl? = some i) : m = .d (.bool i) := by
  cases m with
  | d y => cases y with
    | bool j => simp only [M.bl?, Option.some.injEq] at e; rw [e]
    | _ => simp [M.bl?] at e
  | _ => simp [M.bl?] at e
theorem M.str_eq {m : M} {i : Str} (e : m.str? = some i) : m = .d (.str i) := by
  cases m with
  | d y => cases y with
    | str j => simp only [M.str?, Option.some.injEq] at e; rw [e]
    | _ => simp [M.str?] at e
  | _ => simp [M.str?] at e
theorem RR.int {F H : Hp} {x : V} {r : Rv} {T : List Addr} {i : Int} (h : RR K w F H x r T) (e : r.m.int? = some i) : x = .int i := by
  have := h.pure (M.int_eq e)
  simpa only [RepD] using this
theorem RR.bl {F H : Hp} {x : V} {r : Rv} {T : List Addr} {i : Bool} (h : RR K w F H x r T) (e : r.m.bl? = some i) : x = .bl i := by
  have := h.pure (M.bl_eq e)
  simpa only [RepD] using this
theorem RRs.one {F H : Hp} {x : V} {rs : List Rv} {T : List Addr} (h : RRs K w F H [x] rs T) : ∃ r, rs = [r] ∧ RR K w F H x r T := by
  match rs, h with
  | [r], h =>
    simp only [RRs] at h
    obtain ⟨T1, T2, h1, h2, rfl⟩ := h
    subst h2
    exact ⟨r, rfl, by simpa using h1⟩
  | [], h => simp only [RRs] at h
  | _ :: _ :: _, h =>
    simp only [RRs] at h
    obtain ⟨_, _, _, h, _⟩ := h
    exact h.elim
theorem RRs.two {F H : Hp} {x y : V} {rs : List Rv} {T : List Addr} (h : RRs K w F H [x, y] rs T) : ∃ r q T1 T2, rs = [r, q] ∧ T = T1 ++ T2 ∧ RR K w F H x r T1 ∧ RR K w F H y q T2 := by
  match rs, h with
  | r :: rs, h =>
    simp only [RRs] at h
    obtain ⟨T1, T2, h1, h2, rfl⟩ := h
    obtain ⟨q, rfl, h3⟩ := RRs.one h2
    exact ⟨r, q, T1, T2, rfl, rfl, h1, h3⟩
  | [], h => simp only [RRs] at h
theorem RRs.three {F H : Hp} {x y z : V} {rs : List Rv} {T : List Addr} (h : RRs K w F H [x, y, z] rs T) : ∃ r q p T1 T2 T3, rs = [r, q, p] ∧ RR K w F H x r T1 ∧ RR K w F H y q T2 ∧ RR K w F H z p T3 := by
  match rs, h with
  | r :: rs, h =>
    simp only [RRs] at h
    obtain ⟨T1, T2, h1, h2, rfl⟩ := h
    obtain ⟨q, p, T3, T4, rfl, rfl, h3, h4⟩ := RRs.two h2
    exact ⟨r, q, p, T1, T3, T4, rfl, h1, h3, h4⟩
  | [], h => simp only [RRs] at h
end
end Oa

/-! Part D1: dicts: entries as tables. -/
namespace Oa
open PySem PySem.Spec PyProof.Rows L2
/-! ### tables -/
/-- the value that stands at a key -/
def look? (kvs : List (D × D)) (k : D) : Option D := (kvs.find? fun p => decide (keyOf p.1 = keyOf k)).map (·.2)
/-- in its place, or at the end -/
def putK' (kvs : List (D × D)) (k d : D) : List (D × D) :=
  if (kvs.any fun p => decide (keyOf p.1 = keyOf k)) = true then kvs.map (fun p => if keyOf p.1 = keyOf k then (p.1, d) else p) else kvs ++ [(k, d)]
def atomKey : D → Option Key
  | .int i => some (.inl i)
  | .str x => some (.inr x)
  | _ => none
def atoms (kvs : List (D × D)) : Bool := kvs.all fun p => (atomKey p.1).isSome
def nkOf : Key → NestedKey
  | .inl i => .num i
  | .inr x => .text x
theorem nkOf_inj {a b : Key} (h : nkOf a = nkOf b) : a = b := by
  cases a <;> cases b <;> simp [nkOf] at h <;> rw [h]
theorem atom_key {d : D} {k : Key} (h : atomKey d = some k) : keyOf d = some (nkOf k) := by
  cases d <;> simp [atomKey] at h <;> subst h <;> rfl
theorem atom_eq {d e : D} {k j : Key} (h : atomKey d = some k) (g : atomKey e = some j) : keyOf d = keyOf e ↔ k = j := by
  rw [atom_key h, atom_key g]
  exact ⟨fun q => nkOf_inj (Option.some.inj q), fun q => by rw [q]⟩
theorem atom_val {K : PySem.W.Frag} {w : World} {F : Hp} {x : V} {d : D} {k : Key} (h : atomKey d = some k) (r : RepD K w F x d) : x = kV k := by
  cases d <;> simp [atomKey] at h <;> subst h <;> (simp only [RepD] at r; exact r)
theorem nk_hash (w : World) (k : Key) : (nkOf k).hash w = keyH w k := by cases k <;> rfl
section
variable {K : PySem.W.Frag} {w : World} {P : Program}
/-- the table of values, entry by entry -/
def AtR (K : PySem.W.Frag) (w : World) (F : Hp) : List (Key × Value) → List (D × D) → Prop
  | [], [] => True
  | p :: ps, q :: qs => (atomKey q.1 = some p.1 ∧ ∃ x, RelV x p.2 ∧ RepD K w F x q.2) ∧ AtR K w F ps qs
  | _, _ => False
theorem AtR.keys {F : Hp} : ∀ {vs : List (Key × Value)} {kvs : List (D × D)}, AtR K w F vs kvs → kvs.map (fun p => keyOf p.1) = vs.map fun p => some (nkOf p.1)
  | [], [], _ => rfl
  | [], _ :: _, h => by simp only [AtR] at h
  | _ :: _, [], h => by simp only [AtR] at h
  | p :: ps, q :: qs, h => by
    simp only [AtR] at h
    rw [List.map_cons, List.map_cons, AtR.keys h.2, atom_key h.1.1]
theorem AtR.len {F : Hp} : ∀ {vs : List (Key × Value)} {kvs : List (D × D)}, AtR K w F vs kvs → vs.length = kvs.length
  | [], [], _ => rfl
  | [], _ :: _, h => by simp only [AtR] at h
  | _ :: _, [], h => by simp only [AtR] at h
  | p :: ps, q :: qs, h => by
    simp only [AtR] at h
    rw [List.length_cons, List.length_cons, AtR.len h.2]
theorem AtR.nodup {F : Hp} {vs : List (Key × Value)} {kvs : List (D × D)} (h : AtR K w F vs kvs) (n : (kvs.map fun p => keyOf p.1).Nodup) : (vs.map (·.1)).Nodup := by
  rw [h.keys] at n
  have e : (vs.map fun p => some (nkOf p.1)) = (vs.map (·.1)).map fun k => some (nkOf k) := by rw [List.map_map]; rfl
  rw [e] at n
  exact (List.pairwise_map.mp n).imp fun h z => h (by rw [z])
theorem AtR.nodup' {F : Hp} {vs : List (Key × Value)} {kvs : List (D × D)} (h : AtR K w F vs kvs) (n : (vs.map (·.1)).Nodup) : (kvs.map fun p => keyOf p.1).Nodup := by
  rw [h.keys]
  have e : (vs.map fun p => some (nkOf p.1)) = (vs.map (·.1)).map fun k => some (nkOf k) := by rw [List.map_map]; rfl
  rw [e]
  exact List.pairwise_map.mpr (n.imp fun h z => h (nkOf_inj (Option.some.inj z)))
theorem AtR.atoms {F : Hp} : ∀ {vs : List (Key × Value)} {kvs : List (D × D)}, AtR K w F vs kvs → atoms kvs = true
  | [], [], _ => rfl
  | [], _ :: _, h => by simp only [AtR] at h
  | _ :: _, [], h => by simp only [AtR] at h
  | p :: ps, q :: qs, h => by
    simp only [AtR] at h
    show ((atomKey q.1).isSome && Oa.atoms qs) = true
    rw [h.1.1, AtR.atoms h.2]
    rfl
/-- what is found -/
theorem AtR.look {F : Hp} {k : D} {kk : Key} (hk : atomKey k = some kk) : ∀ {vs : List (Key × Value)} {kvs : List (D × D)}, AtR K w F vs kvs → (valueAt vs kk = none ∧ look? kvs k = none) ∨ ∃ u d x, valueAt vs kk = some u ∧ look? kvs k = some d ∧ RelV x u ∧ RepD K w F x d
  | [], [], _ => .inl ⟨rfl, rfl⟩
  | [], _ :: _, h => by simp only [AtR] at h
  | _ :: _, [], h => by simp only [AtR] at h
  | p :: ps, q :: qs, h => by
    simp only [AtR] at h
    obtain ⟨⟨h1, x, h2, h3⟩, h4⟩ := h
    by_cases e : p.1 = kk
    · have e2 : keyOf q.1 = keyOf k := (atom_eq h1 hk).mpr e
      refine .inr ⟨p.2, q.2, x, ?_, ?_, h2, h3⟩
      · simp [valueAt, List.find?_cons, e]
      · simp [look?, List.find?_cons, e2]
    · have e2 : ¬ keyOf q.1 = keyOf k := fun z => e ((atom_eq h1 hk).mp z)
      have := AtR.look hk h4
      simpa [valueAt, look?, List.find?_cons, e, e2] using this
theorem AtR.any {F : Hp} {k : D} {kk : Key} (hk : atomKey k = some kk) : ∀ {vs : List (Key × Value)} {kvs : List (D × D)}, AtR K w F vs kvs → (vs.any fun p => decide (p.1 = kk)) = kvs.any fun p => decide (keyOf p.1 = keyOf k)
  | [], [], _ => rfl
  | [], _ :: _, h => by simp only [AtR] at h
  | _ :: _, [], h => by simp only [AtR] at h
  | p :: ps, q :: qs, h => by
    simp only [AtR] at h
    rw [List.any_cons, List.any_cons, AtR.any hk h.2]
    congr 1
    exact decide_eq_decide.mpr (atom_eq h.1.1 hk).symm
theorem AtR.repl {F : Hp} {k d : D} {kk : Key} {x : V} {r : Value} (hk : atomKey k = some kk) (hx : RelV x r) (hd : RepD K w F x d) : ∀ {vs : List (Key × Value)} {kvs : List (D × D)}, AtR K w F vs kvs → AtR K w F (vs.map fun p => if p.1 = kk then (p.1, r) else p) (kvs.map fun p => if keyOf p.1 = keyOf k then (p.1, d) else p)
  | [], [], h => h
  | [], _ :: _, h => by simp only [AtR] at h
  | _ :: _, [], h => by simp only [AtR] at h
  | p :: ps, q :: qs, h => by
    simp only [AtR] at h
    rw [List.map_cons, List.map_cons]
    by_cases e : p.1 = kk
    · rw [if_pos e, if_pos ((atom_eq h.1.1 hk).mpr e)]
      simp only [AtR]
      exact ⟨⟨h.1.1, x, hx, hd⟩, AtR.repl hk hx hd h.2⟩
    · rw [if_neg e, if_neg fun z => e ((atom_eq h.1.1 hk).mp z)]
      simp only [AtR]
      exact ⟨h.1, AtR.repl hk hx hd h.2⟩
theorem AtR.snoc {F : Hp} {k d : D} {kk : Key} {x : V} {r : Value} (hk : atomKey k = some kk) (hx : RelV x r) (hd : RepD K w F x d) : ∀ {vs : List (Key × Value)} {kvs : List (D × D)}, AtR K w F vs kvs → AtR K w F (vs ++ [(kk, r)]) (kvs ++ [(k, d)])
  | [], [], _ => by
    simp only [List.nil_append, AtR]
    exact ⟨⟨hk, x, hx, hd⟩, trivial⟩
  | [], _ :: _, h => by simp only [AtR] at h
  | _ :: _, [], h => by simp only [AtR] at h
  | p :: ps, q :: qs, h => by
    simp only [AtR, List.cons_append] at h ⊢
    exact ⟨h.1, AtR.snoc hk hx hd h.2⟩
theorem AtR.put {F : Hp} {k d : D} {kk : Key} {x : V} {r : Value} (hk : atomKey k = some kk) (hx : RelV x r) (hd : RepD K w F x d) {vs : List (Key × Value)} {kvs : List (D × D)} (h : AtR K w F vs kvs) : AtR K w F (stored vs kk r) (putK' kvs k d) := by
  unfold stored putK'
  rw [h.any hk]
  split
  · exact h.repl hk hx hd
  · exact h.snoc hk hx hd
theorem AtR.mono {F F' : Hp} (s : Same F F') : ∀ {vs : List (Key × Value)} {kvs : List (D × D)}, AtR K w F vs kvs → AtR K w F' vs kvs
  | [], [], h => h
  | [], _ :: _, h => by simp only [AtR] at h
  | _ :: _, [], h => by simp only [AtR] at h
  | p :: ps, q :: qs, h => by
    simp only [AtR] at h ⊢
    obtain ⟨⟨h1, x, h2, h3⟩, h4⟩ := h
    exact ⟨⟨h1, x, h2, h3.mono s⟩, AtR.mono s h4⟩
/-- from the entries to the table -/
theorem at_of {F : Hp} : ∀ {es : List DictEntry} {ns : List En} {kvs : List (D × D)}, EnsOk es ns → RepKs K w F ns kvs → atoms kvs = true → ∃ vs : List (Key × Value), (∀ e ∈ es, ∃ k, (mixKind P w).is k e.key = true ∧ e.hash = (mixKind P w).hash k) ∧ Pairs (mixKind P w) es vs ∧ AtR K w F vs kvs
  | [], [], [], _, _, _ => ⟨[], (fun e h => by cases h), .nil, trivial⟩
  | [], [], _ :: _, _, h, _ => by simp only [RepKs] at h
  | [], _ :: _, _, h, _, _ => by simp only [EnsOk] at h
  | _ :: _, [], _, h, _, _ => by simp only [EnsOk] at h
  | _ :: _, _ :: _, [], _, h, _ => by simp only [RepKs] at h
  | e :: es, n :: ns, (a, b) :: kvs, h1, h2, h3 => by
    simp only [EnsOk] at h1
    simp only [RepKs] at h2
    have h3' : ((atomKey a).isSome && atoms kvs) = true := h3
    rw [Bool.and_eq_true] at h3'
    obtain ⟨kk, hk⟩ := Option.isSome_iff_exists.mp h3'.1
    obtain ⟨⟨e1, e2, e3⟩, h1⟩ := h1
    obtain ⟨⟨⟨nk, n1, n2⟩, r1, r2⟩, h2⟩ := h2
    obtain ⟨vs, q1, q2, q3⟩ := at_of h1 h2 h3'.2
    have hv := atom_val hk r1
    rw [hv] at e2
    have his := kV_is (P := P) (w := w) e2
    have hh : e.hash = (mixKind P w).hash kk := by
      rw [atom_key hk] at n1
      cases n1
      rw [e1, n2, nk_hash]
      rfl
    refine ⟨(kk, e.val) :: vs, fun f hf => ?_, .cons his rfl q2, ?_⟩
    · rcases List.mem_cons.mp hf with rfl | hf
      · exact ⟨kk, his, hh⟩
      · exact q1 f hf
    · simp only [AtR]
      exact ⟨⟨hk, n.v, e3, r2⟩, q3⟩
/-- .. and back -/
theorem of_at {F : Hp} : ∀ {es : List DictEntry} {vs : List (Key × Value)} {kvs : List (D × D)}, (∀ e ∈ es, ∃ k, (mixKind P w).is k e.key = true ∧ e.hash = (mixKind P w).hash k) → Pairs (mixKind P w) es vs → AtR K w F vs kvs → ∃ ns, EnsOk es ns ∧ RepKs K w F ns kvs ∧ ns.length = kvs.length
  | _, _, [], _, .nil, _ => ⟨[], trivial, by simp only [RepKs], rfl⟩
  | _, _, _ :: _, _, .nil, h => by simp only [AtR] at h
  | _, _, [], _, .cons _ _ _, h => by simp only [AtR] at h
  | e :: es, p :: vs, q :: kvs, hk, .cons his hv hp, h => by
    simp only [AtR] at h
    obtain ⟨⟨h1, x, h2, h3⟩, h4⟩ := h
    obtain ⟨ns, g1, g2, g3⟩ := of_at (fun f hf => hk f (List.mem_cons_of_mem _ hf)) hp h4
    obtain ⟨k', j1, j2⟩ := hk e List.mem_cons_self
    have : k' = p.1 := (mixKind P w).inj _ _ _ j1 his
    subst this
    have hkey : RelV (kV p.1) e.key := by
      rcases keyIs_shape his with ⟨i, t, e1, e2⟩ | ⟨y, t, e1, e2⟩
      · rw [e1, e2]
        exact ⟨t, rfl⟩
      · rw [e1, e2]
        exact ⟨t, rfl⟩
    refine ⟨⟨e.hash, kV p.1, x⟩ :: ns, ?_, ?_, by rw [List.length_cons, List.length_cons, g3]⟩
    · simp only [EnsOk]
      exact ⟨⟨trivial, hkey, by rw [hv]; exact h2⟩, g1⟩
    · obtain ⟨a, b⟩ := q
      simp only [RepKs]
      refine ⟨⟨⟨nkOf p.1, atom_key h1, ?_⟩, ?_, h3⟩, g2⟩
      · rw [nk_hash]
        exact j2
      · have h1' : atomKey a = some p.1 := h1
        cases a <;> simp [atomKey] at h1' <;> rw [← h1'] <;> simp only [RepD] <;> rfl
/-- the dict that stands there, as the machine's rules want it -/
theorem dct_tab {X : Cx} {pins : List (Addr × Obj)} {σ : L2.St} {H : Hp} {s : Shared} {a : Addr} {ents : Dc} {kvs : List (D × D)} (I : Inv X pins σ H s) (e : H a = some (dctO a ents)) (nd : (kvs.map fun p => keyOf p.1).Nodup) (rk : RepKs X.K X.w H ents.en kvs) (ha : atoms kvs = true) :
    ∃ vs, s.heap.DictOf (mixKind X.prog X.w) a vs ∧ AtR X.K X.w H vs kvs ∧ (a == sysModules) = false ∧ vs.length ≤ sizeLine ∧ ents.en.length = vs.length := by
  obtain ⟨o, es, g1, g2, g3, g4, g5, g6⟩ := dct_at I e
  obtain ⟨vs, q1, q2, q3⟩ := at_of (P := X.prog) g4 rk ha
  have hl : ents.en.length = kvs.length := by
    have : ∀ {ns : List En} {kvs : List (D × D)}, RepKs X.K X.w H ns kvs → ns.length = kvs.length := by
      intro ns
      induction ns with
      | nil => intro kvs h; cases kvs with
        | nil => rfl
        | cons p r => simp only [RepKs] at h
      | cons n ns ih => intro kvs h; cases kvs with
        | nil => simp only [RepKs] at h
        | cons p r =>
          obtain ⟨a, b⟩ := p
          simp only [RepKs] at h
          rw [List.length_cons, List.length_cons, ih h.2]
    exact this rk
  exact ⟨vs, ⟨o, es, _, g1, g2, g3, fun x hx => q1 x (by simpa using hx), q2, q3.nodup nd⟩, q3, g6, by rw [q3.len, ← hl]; exact g5, by rw [hl, q3.len]⟩
/-- .. and back -/
theorem tab_dct {F : Hp} {h : Heap} {a : Addr} {vs : List (Key × Value)} {kvs : List (D × D)} (d : h.DictOf (mixKind P w) a vs) (r : AtR K w F vs kvs) (hs : (a == sysModules) = false) (hl : vs.length ≤ sizeLine) :
    ∃ ents, DctAt a ents h ∧ (kvs.map fun p => keyOf p.1).Nodup ∧ RepKs K w F ents.en kvs := by
  obtain ⟨o, es, ep, g1, g2, g3, g4, g5, g6⟩ := d
  obtain ⟨ns, e1, e2, e3⟩ := of_at (K := K) (P := P) (fun x hx => g4 x (by simpa using hx)) g5 r
  exact ⟨⟨ep, ns⟩, ⟨o, es, g1, g2, g3, e1, by rw [e3, ← r.len]; exact hl, hs⟩, r.nodup' g6, e2⟩
end
end Oa

/-! Part D9: t[::-1] of a list or a tuple. -/
namespace Oa
open PySem PySem.Spec PyProof.Rows L2
section
variable {prog : Program} {w : World} {A : Around} {E : Value → Shared → Prop} {s : Shared}
theorem places_rev (n : Nat) : Builtin.Slice.slicePlaces ((n : Int) - 1) (-1) (-1) = n := by
  unfold Builtin.Slice.slicePlaces
  rw [if_neg (by decide)]
  show (if ((n : Int) - 1 > -1) then ((n : Int) - 1 - -1 - 1) / 1 + 1 else 0).toNat = n
  rw [Int.ediv_one]
  split <;> omega
theorem pick_rev (xs : Array Value) : ((List.range xs.size).filterMap fun (m : Nat) => xs[(((xs.size : Int) - 1) + (m : Int) * (-1)).toNat]?).toArray = xs.toList.reverse.toArray := by
  congr 1
  have e : ∀ m ∈ List.range xs.size, xs[(((xs.size : Int) - 1) + (m : Int) * (-1)).toNat]? = xs.toList.reverse[m]? := by
    intro m hm
    have h := List.mem_range.mp hm
    have e1 : (((xs.size : Int) - 1) + (m : Int) * (-1)).toNat = xs.size - 1 - m := by omega
    rw [e1, List.getElem?_reverse (by rw [Array.length_toList]; exact h), Array.length_toList, ← Array.getElem?_toList]
  have e2 : ∀ (l : List Value) (n : Nat), n ≤ l.length → (List.range n).filterMap (fun m => l[m]?) = l.take n := by
    intro l n
    induction n with
    | zero => intro _; rfl
    | succ n ih =>
      intro h
      rw [List.range_succ, List.filterMap_append, ih (by omega), List.take_add_one]
      simp [List.getElem?_eq_getElem (show n < l.length by omega)]
  have e3 : ((List.range xs.size).filterMap fun (m : Nat) => xs[(((xs.size : Int) - 1) + (m : Int) * (-1)).toNat]?) = (List.range xs.size).filterMap (fun m => xs.toList.reverse[m]?) := by
    have : ∀ (ms : List Nat), (∀ m ∈ ms, m ∈ List.range xs.size) → (ms.filterMap fun (m : Nat) => xs[(((xs.size : Int) - 1) + (m : Int) * (-1)).toNat]?) = ms.filterMap (fun m => xs.toList.reverse[m]?) := by
      intro ms
      induction ms with
      | nil => intro _; rfl
      | cons m ms ih =>
        intro h
        simp only [List.filterMap_cons]
        rw [e m (h m (.head _)), ih (fun x hx => h x (.tail _ hx))]
    exact this _ fun _ h => h
  rw [e3, e2 _ _ (by simp)]
  rw [List.take_of_length_le (by simp)]
theorem sliceApplied_rev {sl : Addr} {vl vu vs : Value} {n : Nat} {Q : Int × Int × Nat → Shared → Prop} (hs : s.heap.IsSliceOf sl vl vu vs) (pl : IsPart vl none) (pu : IsPart vu none) (ps : IsPart vs (some (-1)))
    (h : Q ((n : Int) - 1, -1, n) s) : wpAny (model prog w) A (Builtin.Slice.sliceApplied (.ref sl) (pure (n : Int))) Q E s := by
  obtain ⟨os, hos, hcs, hds⟩ := id hs
  unfold Builtin.Slice.sliceApplied Builtin.Slice.sliceFields
  refine wpAny_bind (wpAny_bind (wpAny_field hos hds (x := vl) rfl (wpAny_bind (wpAny_field hos hds (x := vu) rfl (wpAny_bind (wpAny_field hos hds (x := vs) rfl (wpAny_pure ?_)))))))
  refine wpAny_bind (HT.slicePart_ ps ?_)
  show wpAny _ _ (if ((-1 : Int) == 0) = true then _ else _) _ _ s
  rw [if_neg (by decide)]
  refine wpAny_bind (HT.slicePart_ pl (wpAny_bind (HT.slicePart_ pu (wpAny_bind (wpAny_pure ?_)))))
  show wpAny _ _ (pure ((n : Int) - 1, (-1 : Int), Builtin.Slice.slicePlaces ((n : Int) - 1) (-1) (-1))) _ _ s
  rw [places_rev]
  exact wpAny_pure h
theorem getItem_tuple_rev {t sl : Addr} {items : Array Value} {vl vu vs : Value} {Q : Value → Shared → Prop} (ht : IsTup s.heap t items) (hs : s.heap.IsSliceOf sl vl vu vs) (pl : IsPart vl none) (pu : IsPart vu none) (ps : IsPart vs (some (-1)))
    (h : Q (.ref s.heap.objs.size) { s with heap := s.heap.push { cls := .type "tuple", data := .seq items.toList.reverse.toArray } })
    (hsz : items.size ≤ sizeLine) : wpAny (model prog w) A (getItem (.ref t) (.ref sl)) Q E s := by
  have htake : sizeOk (.seq items.toList.reverse.toArray) := by
    show items.toList.reverse.toArray.size ≤ sizeLine
    rw [List.size_toArray, List.length_reverse, Array.length_toList]
    exact hsz
  obtain ⟨os, hos, hcs, hds⟩ := id hs
  have hTs : s.TypeIs (.ref sl) "slice" := ⟨os, hos, hcs⟩
  unfold getItem
  try with_reducible refine wpAny_holding ?_
  first | refine wpAny_bind (wpAny_pure ?_) | skip
  refine wpAny_bind (wpAny_sequenceKey ht.typeIs (by decide) ?_)
  refine wpAny_bind (wpAny_callSpecial?_slot (name := Str.ofString "__getitem__") ht.typeIs PyProof.Rows.slot_tuple_getitem
    (wpAny_call_entry PyProof.Rows.slot_tuple_getitem ht.typeIs entry_tuple_getitem ?_ (args_tuple_getitem _ _)))
  show wpAny _ _ (Builtin.Tuple.tupleItemsOf (.ref t) >>= _) _ _ s
  refine wpAny_bind (tupleItemsOf_ ht ?_)
  refine wpAny_bind (wpAny_typeOf hTs ?_)
  rw [if_pos (by decide)]
  refine wpAny_bind (sliceApplied_rev hs pl pu ps ?_)
  have hno : ¬ ((((items.size : Int) - 1) == 0 && (-1 : Int) == 1 && items.size == items.size) = true) := by
    intro q
    rw [Bool.and_eq_true, Bool.and_eq_true] at q
    exact absurd q.1.2 (by decide)
  show wpAny _ _ (if (((items.size : Int) - 1) == 0 && (-1 : Int) == 1 && items.size == items.size) = true then _ else _) _ _ s
  rw [if_neg hno, pick_rev]
  first
    | exact wpAny_bind (m := Builtin.Tuple.tupleExact _) (wpAny_newObj_type (wpAny_pure ⟨_, rfl, wpAny_pure h⟩) htake)
    | exact wpAny_bind (m := Builtin.Tuple.tupleExact _) (wpAny_newObj_type (wpAny_bind (wpAny_pure (wpAny_pure ⟨_, rfl, wpAny_pure h⟩))) htake)
    | exact wpAny_bind (wpAny_bind (m := Builtin.Tuple.tupleExact _) (wpAny_newObj_type (wpAny_pure (wpAny_pure ⟨_, rfl, wpAny_pure h⟩)) htake))
    | exact wpAny_bind (wpAny_bind (m := Builtin.Tuple.tupleExact _) (wpAny_newObj_type (wpAny_pure ⟨_, rfl, wpAny_pure h⟩) htake))
end
section
variable {X : Cx}
def tRevB (K : PySem.W.Frag) (te : TE) : TE := fun σ H Q => te σ H fun x H1 => (∃ a xs, x = .ref a ∧ SqL K H1 a xs ∧ ∀ p, H1 p = none → Q (.ref p) (upd H1 p (.lst xs.reverse))) ∨
  (∃ a xs, x = .ref a ∧ SqT K H1 a xs ∧ ∀ p, H1 p = none → Q (.ref p) (upd H1 p (.tup xs.reverse)))
theorem pe_revB {e : Expr} {te : TE} {k : Nat} {p1 p2 p3 pos : Pos} (he : PE X e te) : PE X (.Subscript e (.Slice none none (some (.UnaryOp .USub (.Constant (.int 1) k p1) p2)) p3) pos) (tRevB X.K te) := by
  refine ⟨fun pins s σ H Q I h => ?_⟩
  refine Subscript_ (thn (he.run pins s σ H _ I h) fun v s1 ⟨x, H1, I1, r1, q1⟩ => ?_)
  have hst : PO X (some (.UnaryOp .USub (.Constant (.int 1) k p1) p2)) (tPart (tUn (rU fun i => .int (-i)) (tC (.int 1)))) := po_some (pe_un un_neg pe_int)
  refine wpAny_Slice (thn (po_none.run pins s1 σ H1 (fun o H2 => o = none ∧ H2 = H1) I1 ⟨rfl, rfl⟩) fun vl s2 ⟨l, H2, I2, pl, el, e2⟩ => ?_)
  subst el e2
  refine thn (po_none.run pins s2 σ H2 (fun o H3 => o = none ∧ H3 = H2) I2 ⟨rfl, rfl⟩) fun vu s3 ⟨u, H3, I3, pu, eu, e3⟩ => ?_
  subst eu e3
  refine thn (hst.run pins s3 σ H3 (fun o H4 => o = some (-1) ∧ H4 = H3) I3 ⟨1, rfl, -1, rfl, rfl, rfl⟩) fun vs s4 ⟨o, H4, I4, ps, eo, e4⟩ => ?_
  subst eo e4
  have I5 : Inv X pins σ H4 { s4 with heap := s4.heap.push { cls := .type "slice", data := .fields #[vl, vu, vs] } } := I4.kept (t' := s4.toks) fun b ob q => Heap.get?_push_of_some _ q
  rcases q1 with ⟨a, xs, ex, hx, q⟩ | ⟨a, xs, ex, hx, q⟩
  · subst ex
    cases r1
    obtain ⟨its, r, ht, hz⟩ := I5.list hx
    have hlen := r.length
    show wpAny (model X.prog X.w) X.A (subscriptTail e (.Slice none none (some (.UnaryOp .USub (.Constant (.int 1) k p1) p2)) p3) (.ref a) (.ref s4.heap.objs.size)) (EP X pins σ Q) X.xe { s4 with heap := s4.heap.push { cls := .type "slice", data := .fields #[vl, vu, vs] } }
    refine tail_any (ops := [.ref a, .ref s4.heap.objs.size]) ht.isList.typeIs (PySem.slot_list_getitem.lookup) ?_ (by with_unfolding_all rfl)
    refine wpAny_getItem_list_slice ht.isList (Heap.IsSliceOf.new _ vl vu vs) pl pu ps (by decide) ?_ (by rw [List.size_toArray]; omega)
    rw [PySem.W.krv_pick]
    refine ⟨.ref _, _, I5.laid (t' := s4.toks) (o := .lst xs.reverse) (fun b ob q => Heap.get?_push_of_some _ q) (Nat.le_refl _) ?_, rfl, q _ (I5.hok.fresh (Nat.le_refl _))⟩
    exact ⟨by rw [List.length_reverse]; exact hz, _, 0, r.reverse, Heap.get?_push_size _ rfl⟩
  · subst ex
    cases r1
    obtain ⟨its, r, ht, hz⟩ := I5.tuple hx
    have hlen := r.length
    show wpAny (model X.prog X.w) X.A (subscriptTail e (.Slice none none (some (.UnaryOp .USub (.Constant (.int 1) k p1) p2)) p3) (.ref a) (.ref s4.heap.objs.size)) (EP X pins σ Q) X.xe { s4 with heap := s4.heap.push { cls := .type "slice", data := .fields #[vl, vu, vs] } }
    refine tail_any (ops := [.ref a, .ref s4.heap.objs.size]) ht.typeIs (PyProof.Rows.slot_tuple_getitem.lookup) ?_ (by with_unfolding_all rfl)
    refine getItem_tuple_rev ht (Heap.IsSliceOf.new _ vl vu vs) pl pu ps ?_ (by rw [List.size_toArray]; omega)
    refine ⟨.ref _, _, I5.laid (t' := s4.toks) (o := .tup xs.reverse) (fun b ob q => Heap.get?_push_of_some _ q) (Nat.le_refl _) ?_, rfl, q _ (I5.hok.fresh (Nat.le_refl _))⟩
    exact ⟨by rw [List.length_reverse]; exact hz, _, r.reverse, IsTup.new _ _⟩
end
end Oa

/-! Part D3: dicts whose keys are tuples. -/
namespace Oa
open PySem PySem.Spec PyProof.Rows L2
/-- a tuple as a key -/
def tupKey : D → Option NestedKey
  | .tuple xs => match keyOf (.tuple xs) with
    | some k => if k.depth ≤ 8 then some k else none
    | none => none
  | _ => none
def tups (kvs : List (D × D)) : Bool := kvs.all fun p => (tupKey p.1).isSome
/-- this key in this dict -/
def kOk (kvs : List (D × D)) (k : D) : Bool := (atoms kvs && (atomKey k).isSome) || (tups kvs && (tupKey k).isSome)
theorem kOk_cases {kvs : List (D × D)} {k : D} (h : kOk kvs k = true) : (atoms kvs = true ∧ ∃ kk, atomKey k = some kk) ∨ (tups kvs = true ∧ ∃ kk, tupKey k = some kk) := by
  unfold kOk at h
  rw [Bool.or_eq_true, Bool.and_eq_true, Bool.and_eq_true] at h
  rcases h with ⟨h1, h2⟩ | ⟨h1, h2⟩
  · exact .inl ⟨h1, Option.isSome_iff_exists.mp h2⟩
  · exact .inr ⟨h1, Option.isSome_iff_exists.mp h2⟩
theorem tup_key {d : D} {k : NestedKey} (h : tupKey d = some k) : keyOf d = some k ∧ k.depth ≤ 8 ∧ ∃ xs, d = .tuple xs := by
  cases d with
  | tuple xs =>
    simp only [tupKey] at h
    cases e : keyOf (.tuple xs) with
    | none => rw [e] at h; cases h
    | some j =>
      rw [e] at h
      simp only at h
      split at h
      · cases h
        exact ⟨rfl, ‹_›, xs, rfl⟩
      · cases h
  | _ => cases h
theorem tup_eq {d e : D} {k j : NestedKey} (h : tupKey d = some k) (g : tupKey e = some j) : keyOf d = keyOf e ↔ k = j := by
  rw [(tup_key h).1, (tup_key g).1]
  exact ⟨fun q => Option.some.inj q, fun q => by rw [q]⟩
section
variable {X : Cx} {pins : List (Addr × Obj)} {σ : L2.St} {H : Hp} {s : Shared}
mutual
theorem nested_is (I : Inv X pins σ H s) : ∀ (d : D) {x : V} {u : Value} {k : NestedKey}, RepD X.K X.w H x d → RelV x u → keyOf d = some k → NestedIs s.heap k u
  | .none, x, u, k, h, r, e => by
    simp only [RepD] at h
    subst h
    cases r
    cases e
    exact .none
  | .bool b, x, u, k, h, r, e => by
    simp only [RepD] at h
    subst h
    cases r
    cases e
    exact .bool rfl
  | .int i, x, u, k, h, r, e => by
    simp only [RepD] at h
    subst h
    obtain ⟨t, rfl⟩ := r
    cases e
    exact .int i t
  | .str z, x, u, k, h, r, e => by
    simp only [RepD] at h
    subst h
    obtain ⟨t, rfl⟩ := r
    cases e
    exact .text z t
  | .tuple ds, x, u, k, h, r, e => by
    simp only [RepD] at h
    obtain ⟨a, vs, rfl, h1, h2⟩ := h
    cases r
    obtain ⟨its, q1, ⟨o, g1, g2, n, g3⟩, _⟩ := I.tuple h1.sqT
    have e2 : (keysOf ds).map NestedKey.tup = some k := e
    cases e3 : keysOf ds with
    | none => rw [e3] at e2; cases e2
    | some ks =>
      rw [e3] at e2
      cases e2
      exact .tup g1 g2 g3 (nested_are I ds h2 q1 e3)
  | .list ds, x, u, k, h, r, e => by cases e
  | .dict kvs, x, u, k, h, r, e => by cases e
theorem nested_are (I : Inv X pins σ H s) : ∀ (ds : List D) {xs : List V} {us : List Value} {ks : List NestedKey}, RepDs X.K X.w H xs ds → Vals xs us → keysOf ds = some ks → NestedAll s.heap ks us
  | [], [], us, ks, h, r, e => by
    cases r
    cases e
    exact .nil
  | [], _ :: _, us, ks, h, r, e => by simp only [RepDs] at h
  | _ :: _, [], us, ks, h, r, e => by simp only [RepDs] at h
  | d :: ds, x :: xs, us, ks, h, r, e => by
    simp only [RepDs] at h
    cases r with
    | cons r1 r2 =>
      simp only [keysOf] at e
      cases e3 : keyOf d with
      | none => rw [e3] at e; cases e
      | some k =>
        cases e4 : keysOf ds with
        | none => rw [e3, e4] at e; cases e
        | some ks' =>
          rw [e3, e4] at e
          cases e
          exact .cons (nested_is I d h.1 r1 e3) (nested_are I ds h.2 r2 e4)
end
end
section
variable {K : PySem.W.Frag} {w : World} {P : Program}
/-- the table of values, entry by entry -/
def AtH (K : PySem.W.Frag) (w : World) (F : Hp) : List (NestedKey × Addr × Value) → List (D × D) → Prop
  | [], [] => True
  | p :: ps, q :: qs => (tupKey q.1 = some p.1 ∧ RepD K w F (.ref p.2.1) q.1 ∧ ∃ x, RelV x p.2.2 ∧ RepD K w F x q.2) ∧ AtH K w F ps qs
  | _, _ => False
theorem AtH.keys {F : Hp} : ∀ {vs : List (NestedKey × Addr × Value)} {kvs : List (D × D)}, AtH K w F vs kvs → kvs.map (fun p => keyOf p.1) = vs.map fun p => some p.1
  | [], [], _ => rfl
  | [], _ :: _, h => by simp only [AtH] at h
  | _ :: _, [], h => by simp only [AtH] at h
  | p :: ps, q :: qs, h => by
    simp only [AtH] at h
    rw [List.map_cons, List.map_cons, AtH.keys h.2, (tup_key h.1.1).1]
theorem AtH.len {F : Hp} : ∀ {vs : List (NestedKey × Addr × Value)} {kvs : List (D × D)}, AtH K w F vs kvs → vs.length = kvs.length
  | [], [], _ => rfl
  | [], _ :: _, h => by simp only [AtH] at h
  | _ :: _, [], h => by simp only [AtH] at h
  | p :: ps, q :: qs, h => by
    simp only [AtH] at h
    rw [List.length_cons, List.length_cons, AtH.len h.2]
theorem AtH.nodup {F : Hp} {vs : List (NestedKey × Addr × Value)} {kvs : List (D × D)} (h : AtH K w F vs kvs) (n : (kvs.map fun p => keyOf p.1).Nodup) : (vs.map (·.1)).Nodup := by
  rw [h.keys] at n
  have e : (vs.map fun p => some p.1) = (vs.map (·.1)).map fun k => some k := by rw [List.map_map]; rfl
  rw [e] at n
  exact (List.pairwise_map.mp n).imp fun h z => h (by rw [z])
theorem AtH.nodup' {F : Hp} {vs : List (NestedKey × Addr × Value)} {kvs : List (D × D)} (h : AtH K w F vs kvs) (n : (vs.map (·.1)).Nodup) : (kvs.map fun p => keyOf p.1).Nodup := by
  rw [h.keys]
  have e : (vs.map fun p => some p.1) = (vs.map (·.1)).map fun k => some k := by rw [List.map_map]; rfl
  rw [e]
  exact List.pairwise_map.mpr (n.imp fun h z => h (Option.some.inj z))
theorem AtH.look {F : Hp} {k : D} {kk : NestedKey} (hk : tupKey k = some kk) : ∀ {vs : List (NestedKey × Addr × Value)} {kvs : List (D × D)}, AtH K w F vs kvs → (atKey vs kk = none ∧ look? kvs k = none) ∨ ∃ p d x, atKey vs kk = some p ∧ look? kvs k = some d ∧ RelV x p.2 ∧ RepD K w F x d
  | [], [], _ => .inl ⟨rfl, rfl⟩
  | [], _ :: _, h => by simp only [AtH] at h
  | _ :: _, [], h => by simp only [AtH] at h
  | p :: ps, q :: qs, h => by
    simp only [AtH] at h
    obtain ⟨⟨h1, h0, x, h2, h3⟩, h4⟩ := h
    by_cases e : p.1 = kk
    · have e2 : keyOf q.1 = keyOf k := (tup_eq h1 hk).mpr e
      refine .inr ⟨p.2, q.2, x, ?_, ?_, h2, h3⟩
      · simp [atKey, List.find?_cons, e]
      · simp [look?, List.find?_cons, e2]
    · have e2 : ¬ keyOf q.1 = keyOf k := fun z => e ((tup_eq h1 hk).mp z)
      have := AtH.look hk h4
      simpa [atKey, look?, List.find?_cons, e, e2] using this
theorem AtH.any {F : Hp} {k : D} {kk : NestedKey} (hk : tupKey k = some kk) : ∀ {vs : List (NestedKey × Addr × Value)} {kvs : List (D × D)}, AtH K w F vs kvs → (atKey vs kk).isSome = kvs.any fun p => decide (keyOf p.1 = keyOf k)
  | [], [], _ => rfl
  | [], _ :: _, h => by simp only [AtH] at h
  | _ :: _, [], h => by simp only [AtH] at h
  | p :: ps, q :: qs, h => by
    simp only [AtH] at h
    rw [List.any_cons, ← AtH.any hk h.2]
    by_cases e : p.1 = kk
    · simp [atKey, List.find?_cons, e, (tup_eq h.1.1 hk).mpr e]
    · have e2 : ¬ keyOf q.1 = keyOf k := fun z => e ((tup_eq h.1.1 hk).mp z)
      simp [atKey, List.find?_cons, e, e2]
theorem AtH.repl {F : Hp} {k d : D} {kk : NestedKey} {x : V} {r : Value} (hk : tupKey k = some kk) (hx : RelV x r) (hd : RepD K w F x d) : ∀ {vs : List (NestedKey × Addr × Value)} {kvs : List (D × D)}, AtH K w F vs kvs → AtH K w F (vs.map (putAt kk r)) (kvs.map fun p => if keyOf p.1 = keyOf k then (p.1, d) else p)
  | [], [], h => h
  | [], _ :: _, h => by simp only [AtH] at h
  | _ :: _, [], h => by simp only [AtH] at h
  | p :: ps, q :: qs, h => by
    simp only [AtH] at h
    rw [List.map_cons, List.map_cons]
    unfold putAt
    by_cases e : p.1 = kk
    · rw [if_pos e, if_pos ((tup_eq h.1.1 hk).mpr e)]
      simp only [AtH]
      exact ⟨⟨h.1.1, h.1.2.1, x, hx, hd⟩, AtH.repl hk hx hd h.2⟩
    · rw [if_neg e, if_neg fun z => e ((tup_eq h.1.1 hk).mp z)]
      simp only [AtH]
      exact ⟨h.1, AtH.repl hk hx hd h.2⟩
theorem AtH.snoc {F : Hp} {k d : D} {kk : NestedKey} {b : Addr} {x : V} {r : Value} (hk : tupKey k = some kk) (hb : RepD K w F (.ref b) k) (hx : RelV x r) (hd : RepD K w F x d) : ∀ {vs : List (NestedKey × Addr × Value)} {kvs : List (D × D)}, AtH K w F vs kvs → AtH K w F (vs ++ [(kk, b, r)]) (kvs ++ [(k, d)])
  | [], [], _ => by
    simp only [List.nil_append, AtH]
    exact ⟨⟨hk, hb, x, hx, hd⟩, trivial⟩
  | [], _ :: _, h => by simp only [AtH] at h
  | _ :: _, [], h => by simp only [AtH] at h
  | p :: ps, q :: qs, h => by
    simp only [AtH, List.cons_append] at h ⊢
    exact ⟨h.1, AtH.snoc hk hb hx hd h.2⟩
theorem AtH.put {F : Hp} {k d : D} {kk : NestedKey} {b : Addr} {x : V} {r : Value} (hk : tupKey k = some kk) (hb : RepD K w F (.ref b) k) (hx : RelV x r) (hd : RepD K w F x d) {vs : List (NestedKey × Addr × Value)} {kvs : List (D × D)} (h : AtH K w F vs kvs) : AtH K w F (storedH vs kk b r) (putK' kvs k d) := by
  unfold storedH putK'
  rw [h.any hk]
  split
  · exact h.repl hk hx hd
  · exact h.snoc hk hb hx hd
theorem AtH.mono {F F' : Hp} (s : Same F F') : ∀ {vs : List (NestedKey × Addr × Value)} {kvs : List (D × D)}, AtH K w F vs kvs → AtH K w F' vs kvs
  | [], [], h => h
  | [], _ :: _, h => by simp only [AtH] at h
  | _ :: _, [], h => by simp only [AtH] at h
  | p :: ps, q :: qs, h => by
    simp only [AtH] at h ⊢
    obtain ⟨⟨h1, h0, x, h2, h3⟩, h4⟩ := h
    exact ⟨⟨h1, h0.mono s, x, h2, h3.mono s⟩, AtH.mono s h4⟩
theorem tup_val {F : Hp} {x : V} {d : D} {k : NestedKey} (h : tupKey d = some k) (r : RepD K w F x d) : ∃ b, x = .ref b := by
  obtain ⟨_, _, xs, rfl⟩ := tup_key h
  simp only [RepD] at r
  obtain ⟨a, _, e, _⟩ := r
  exact ⟨a, e⟩
/-- from the entries to the table -/
theorem ath_of {F : Hp} {h : Heap} (nis : ∀ (d : D) {x : V} {u : Value} {k : NestedKey}, RepD K w F x d → RelV x u → keyOf d = some k → NestedIs h k u) : ∀ {es : List DictEntry} {ns : List En} {kvs : List (D × D)}, EnsOk es ns → RepKs K w F ns kvs → tups kvs = true → ∃ xs : List (NestedKey × Addr × Value), es = xs.map (entryOfKey (nestedKind P w)) ∧ (∀ x ∈ xs, (nestedKind P w).is h x.1 x.2.1) ∧ AtH K w F xs kvs
  | [], [], [], _, _, _ => ⟨[], rfl, (fun e h => by cases h), trivial⟩
  | [], [], _ :: _, _, h, _ => by simp only [RepKs] at h
  | [], _ :: _, _, h, _, _ => by simp only [EnsOk] at h
  | _ :: _, [], _, h, _, _ => by simp only [EnsOk] at h
  | _ :: _, _ :: _, [], _, h, _ => by simp only [RepKs] at h
  | e :: es, n :: ns, (a, b) :: kvs, h1, h2, h3 => by
    simp only [EnsOk] at h1
    simp only [RepKs] at h2
    have h3' : ((tupKey a).isSome && tups kvs) = true := h3
    rw [Bool.and_eq_true] at h3'
    obtain ⟨kk, hk⟩ := Option.isSome_iff_exists.mp h3'.1
    obtain ⟨⟨e1, e2, e3⟩, h1⟩ := h1
    obtain ⟨⟨⟨nk, n1, n2⟩, r1, r2⟩, h2⟩ := h2
    obtain ⟨xs, q1, q2, q3⟩ := ath_of nis h1 h2 h3'.2
    obtain ⟨k1, k2, _⟩ := tup_key hk
    rw [k1] at n1
    cases n1
    obtain ⟨c, hc⟩ := tup_val hk r1
    have hn := nis a r1 e2 k1
    rw [hc] at e2 r1
    have hkey : e.key = .ref c := e2
    refine ⟨(kk, c, e.val) :: xs, ?_, fun f hf => ?_, ?_⟩
    · rw [List.map_cons, ← q1]
      congr 1
      cases e with
      | mk eh ek ev =>
        simp only at e1 hkey
        subst hkey
        show DictEntry.mk eh (.ref c) ev = DictEntry.mk (kk.hash w) (.ref c) ev
        rw [e1, n2]
    · rcases List.mem_cons.mp hf with rfl | hf
      · rw [hkey] at hn
        exact ⟨hn, k2⟩
      · exact q2 f hf
    · simp only [AtH]
      exact ⟨⟨hk, r1, n.v, e3, r2⟩, q3⟩
/-- .. and back -/
theorem of_ath (P : Program) {F : Hp} : ∀ {xs : List (NestedKey × Addr × Value)} {kvs : List (D × D)}, AtH K w F xs kvs → ∃ ns, EnsOk (xs.map (entryOfKey (nestedKind P w))) ns ∧ RepKs K w F ns kvs ∧ ns.length = kvs.length
  | [], [], _ => ⟨[], trivial, by simp only [RepKs], rfl⟩
  | [], _ :: _, h => by simp only [AtH] at h
  | _ :: _, [], h => by simp only [AtH] at h
  | p :: xs, q :: kvs, h => by
    simp only [AtH] at h
    obtain ⟨⟨h1, h0, x, h2, h3⟩, h4⟩ := h
    obtain ⟨ns, g1, g2, g3⟩ := of_ath P h4
    refine ⟨⟨p.1.hash w, .ref p.2.1, x⟩ :: ns, ?_, ?_, by rw [List.length_cons, List.length_cons, g3]⟩
    · rw [List.map_cons]
      simp only [EnsOk]
      exact ⟨⟨rfl, rfl, h2⟩, g1⟩
    · obtain ⟨a, b⟩ := q
      simp only [RepKs]
      exact ⟨⟨⟨p.1, (tup_key h1).1, rfl⟩, h0, h3⟩, g2⟩
theorem repks_len {F : Hp} : ∀ {ns : List En} {kvs : List (D × D)}, RepKs K w F ns kvs → ns.length = kvs.length
  | [], [], _ => rfl
  | [], _ :: _, h => by simp only [RepKs] at h
  | _ :: _, [], h => by simp only [RepKs] at h
  | n :: ns, (a, b) :: r, h => by
    simp only [RepKs] at h
    rw [List.length_cons, List.length_cons, repks_len h.2]
/-- the dict that stands there, as the machine's rules want it -/
theorem dct_tabH {X : Cx} {pins : List (Addr × Obj)} {σ : L2.St} {F H : Hp} {s : Shared} {a : Addr} {ents : Dc} {kvs : List (D × D)} (I : Inv X pins σ H s) (sF : Same F H) (e : H a = some (dctO a ents)) (nd : (kvs.map fun p => keyOf p.1).Nodup) (rk : RepKs X.K X.w F ents.en kvs) (ha : tups kvs = true) :
    ∃ xs, s.heap.DictOfH (nestedKind X.prog X.w) a xs ∧ AtH X.K X.w F xs kvs ∧ (a == sysModules) = false ∧ xs.length ≤ sizeLine := by
  obtain ⟨o, es, g1, g2, g3, g4, g5, g6⟩ := dct_at I e
  obtain ⟨xs, q1, q2, q3⟩ := ath_of (P := X.prog) (h := s.heap) (fun d {x u k} h r e => nested_is I d (h.mono sF) r e) g4 rk ha
  exact ⟨xs, ⟨o, es, _, g1, g2, g3, q1, q2, q3.nodup nd⟩, q3, g6, by rw [q3.len, ← repks_len rk]; exact g5⟩
/-- .. and back -/
theorem tabH_dct {F : Hp} {h : Heap} {a : Addr} {xs : List (NestedKey × Addr × Value)} {kvs : List (D × D)} (d : h.DictOfH (nestedKind P w) a xs) (r : AtH K w F xs kvs) (hs : (a == sysModules) = false) (hl : xs.length ≤ sizeLine) :
    ∃ ents, DctAt a ents h ∧ (kvs.map fun p => keyOf p.1).Nodup ∧ RepKs K w F ents.en kvs := by
  obtain ⟨o, es, ep, g1, g2, g3, g4, g5, g6⟩ := d
  obtain ⟨ns, e1, e2, e3⟩ := of_ath P r
  exact ⟨⟨ep, ns⟩, ⟨o, es, g1, g2, g3, by rw [g4]; exact e1, by rw [e3, ← r.len]; exact hl, hs⟩, r.nodup' g6, e2⟩
end
end Oa

/-! Part 4: the primitives. -/
namespace Oa
open PySem PySem.Spec PyProof.Rows L2
abbrev Pf := List Rv → Res Rv
abbrev big : Nat := 16777216
theorem big_eq : big = sizeLine := sizeLine_eq.symm
namespace P
/-- two ints -/
def ii (g : Int → Int → Res D) : Pf
  | [a, b] => match a.m.int?, b.m.int? with
    | some i, some j => (g i j).bind fun d => .ok (.p d)
    | _, _ => .bad
  | _ => .bad
def add : Pf
  | [a, b] => match a.m.int?, b.m.int? with
    | some i, some j => .ok (.p (.int (i + j)))
    | _, _ => match a.m.items, b.m.items with
      | some (false, xs), some (false, ys) => if xs.length + ys.length ≤ big then .ok (.o (.v (xs ++ ys))) else .bad
      | some (true, xs), some (true, ys) => if xs.length + ys.length ≤ big then .ok (.p (.tuple (xs ++ ys))) else .bad
      | _, _ => .bad
  | _ => .bad
def sub : Pf := ii fun i j => .ok (.int (i - j))
def mul : Pf
  | [a, b] => match a.m.int?, b.m.int? with
    | some i, some j => if i.natAbs.log2 + j.natAbs.log2 < 1000000 then .ok (.p (.int (i * j))) else .bad
    | _, some k => match a.m.items with
      | some (false, xs) => if k < 4611686018427387904 ∧ -4611686018427387904 < k ∧ xs.length * k.toNat ≤ big then .ok (.o (.v (List.replicate k.toNat xs).flatten)) else .bad
      | some (true, xs) => if k = 1 then .ok (.p (.tuple xs)) else if xs.isEmpty = false ∧ 2 ≤ k ∧ k ≤ 1000 ∧ xs.length ≤ 1000 then .ok (.p (.tuple (List.replicate k.toNat xs).flatten)) else .bad
      | _ => .bad
    | _, _ => .bad
  | _ => .bad
def fdiv : Pf := ii fun i j => if 0 < j ∧ j.natAbs.log2 < 9000 then .ok (.int (i / j)) else .bad
def mod : Pf := ii fun i j => if 0 < j then .ok (.int (i % j)) else .bad
def pow : Pf := ii fun i j => if 0 ≤ j ∧ j ≤ 1000000 ∧ i.natAbs < 18446744073709551616 then .ok (.int (i ^ j.toNat)) else .bad
def band : Pf := ii fun i j => .ok (.int (Builtin.bitAnd i j))
def shr : Pf := ii fun i j => if 0 ≤ j then .ok (.int (i / 2 ^ j.toNat)) else .bad
def neg : Pf
  | [a] => match a.m.int? with
    | some i => .ok (.p (.int (-i)))
    | _ => .bad
  | _ => .bad
/-- two data, read -/
def dd (c : D → D → Bool) (g : D → D → Bool) : Pf
  | [a, b] => if a.m.fine = true ∧ b.m.fine = true ∧ c a.data b.data = true then .ok (.p (.bool (g a.data b.data))) else .bad
  | _ => .bad
def okEq (x y : D) : Bool := x.plain && y.plain && decide (x.depth ≤ 60)
def okLt (x y : D) : Bool := PySem.W.alike x y && (match x with | .none => false | _ => true) && decide (x.depth ≤ 60)
def eq : Pf := dd okEq PyData.eqv
def ne : Pf := dd okEq fun x y => !PyData.eqv x y
def lt : Pf := dd okLt PySem.W.dataLt
def le : Pf := dd okLt fun x y => !PySem.W.dataLt y x
def gt : Pf := dd okLt fun x y => PySem.W.dataLt y x
def ge : Pf := dd okLt fun x y => !PySem.W.dataLt x y
def seqOf : D → Option (List D)
  | .list xs => some xs
  | .tuple xs => some xs
  | _ => none
def okIn (x c : D) : Bool := match seqOf c with
  | some xs => PyData.plainAll xs && x.plain && decide (x.depth ≤ 60)
  | none => false
def memOf (x c : D) : Bool := ((seqOf c).getD []).any fun y => PyData.eqv y x
def isin0 : Pf := dd okIn memOf
def notin0 : Pf := dd okIn fun x c => !memOf x c
def okInD (x c : D) : Bool := match c with
  | .dict kvs => kOk kvs x
  | _ => okIn x c
def memOfD (x c : D) : Bool := match c with
  | .dict kvs => (look? kvs x).isSome
  | _ => memOf x c
def isin : Pf := dd okInD memOfD
def notin : Pf := dd okInD fun x c => !memOfD x c
/-- how often it is in it -/
def isK (t : Bool) (r : Rv) : Bool := match r.m with
  | .t _ => t
  | m => match m.data with
    | .list _ => !t
    | _ => false
def cnt (t : Bool) : Pf
  | [a, b] => if isK t a = true ∧ a.m.fine = true ∧ b.m.fine = true ∧ okIn b.data a.data = true then .ok (.p (.int ((((seqOf a.data).getD []).countP fun y => PyData.eqv y b.data : Nat)))) else .bad
  | _ => .bad
def isNone : D → Bool
  | .none => true
  | _ => false
/-- x is None, x is True .. -/
def isp : Pf
  | [a, b] => match b.m with
    | .d .none => if a.m.fine = true then .ok (.p (.bool (isNone a.data))) else .bad
    | _ => match a.m.bl?, b.m.bl? with
      | some i, some j => .ok (.p (.bool (decide (i = j))))
      | _, _ => .bad
  | _ => .bad
def isnot : Pf
  | [a, b] => match b.m with
    | .d .none => if a.m.fine = true then .ok (.p (.bool (!isNone a.data))) else .bad
    | _ => match a.m.bl?, b.m.bl? with
      | some i, some j => .ok (.p (.bool (!decide (i = j))))
      | _, _ => .bad
  | _ => .bad
/-- the number of items -/
def lenOf : D → Option Nat
  | .list xs => some xs.length
  | .tuple xs => some xs.length
  | _ => none
def len : Pf
  | [a] => if a.m.fine = true then match lenOf a.data with
    | some n => .ok (.p (.int n))
    | none => .bad
    else .bad
  | _ => .bad
def int : Pf
  | [a] => match a.m with
    | .d (.int i) => .ok (.p (.int i))
    | .d (.bool b) => .ok (.p (.int (if b = true then 1 else 0)))
    | _ => .bad
  | _ => .bad
def abs : Pf
  | [a] => match a.m.int? with
    | some i => .ok (.p (.int (if i < 0 then -i else i)))
    | _ => .bad
  | _ => .bad
def list : Pf
  | [a] => match a.m.items with
    | some (_, xs) => .ok (.o (.v xs))
    | _ => .bad
  | _ => .bad
def tuple : Pf
  | [a] => match a.m.items with
    | some (_, xs) => .ok (.p (.tuple xs))
    | _ => .bad
  | _ => .bad
/-- .. of a list, its object known -/
def tupK : Pf
  | [a] => match a.m.items with
    | some (false, xs) => .ok (.o (.t xs))
    | _ => .bad
  | _ => .bad
def rev : Pf
  | [a] => match a.m.items with
    | some (false, xs) => .ok (.o (.v xs.reverse))
    | some (true, xs) => .ok (.p (.tuple xs.reverse))
    | _ => .bad
  | _ => .bad
/-- may be sorted -/
def okSort (xs : List D) : Bool := xs.all (fun x => xs.all fun y => PySem.W.alike x y) && xs.all (fun x => decide (x.depth ≤ 60)) &&
  (xs.all (fun x => match x with | .tuple (_ :: _) => true | _ => false) || xs.all (fun x => match x with | .none => false | .tuple _ => false | _ => true))
def sorted : Pf
  | [a] => match a.m.items with
    | some (_, xs) => if okSort xs = true ∧ xs.length ≤ big then .ok (.o (.v (xs.mergeSort (PySem.W.dataLe false id)))) else .bad
    | _ => .bad
  | _ => .bad
/-- the first of the least -/
def okMin (xs : List D) : Bool := xs.all (fun x => xs.all fun y => PySem.W.alike x y) && xs.all (fun x => decide (x.depth ≤ 60)) && xs.all (fun x => match x with | .none => false | _ => true)
def min : Pf
  | [a] => match a.m.items with
    | some (false, x :: xs) => if okMin (x :: xs) = true then .ok (.p (PySem.W.minD x xs)) else .bad
    | _ => .bad
  | _ => .bad
def intsOf : List D → Option (List Int)
  | [] => some []
  | .int i :: r => (intsOf r).map (i :: ·)
  | _ => none
def blsOf : List D → Option (List Bool)
  | [] => some []
  | .bool i :: r => (blsOf r).map (i :: ·)
  | _ => none
def sum : Pf
  | [a] => match a.m.items with
    | some (false, xs) => match intsOf xs with
      | some ns => .ok (.p (.int ns.sum))
      | none => .bad
    | _ => .bad
  | _ => .bad
def all : Pf
  | [a] => match a.m.items with
    | some (false, xs) => match blsOf xs with
      | some bs => .ok (.p (.bool (bs.all id)))
      | none => .bad
    | _ => .bad
  | _ => .bad
def any : Pf
  | [a] => match a.m.items with
    | some (false, xs) => match blsOf xs with
      | some bs => .ok (.p (.bool (bs.any id)))
      | none => .bad
    | _ => .bad
  | _ => .bad
def idx0 : Pf
  | [a, b] => match b.m.int? with
    | some i => match a.m with
      | .l ms => match atI ms i with
        | some m => .ok (.b m)
        | none => .bad
      | _ => match a.m.items with
        | some (_, xs) => match atI xs i with
          | some d => .ok (.p d)
          | none => .bad
        | none => .bad
    | none => .bad
  | _ => .bad
/-- of a dict -/
def dct? : M → Option (List (D × D))
  | .m kvs => some kvs
  | .d (.dict kvs) => some kvs
  | _ => none
def idx : Pf
  | [a, b] => match dct? a.m with
    | some kvs => match b.m with
      | .d k => if kOk kvs k = true then match look? kvs k with
        | some d => .ok (.p d)
        | none => .bad
        else .bad
      | _ => .bad
    | none => idx0 [a, b]
  | _ => .bad
/-- x.get(k), x.get(k, d) -/
def get : Pf
  | [a, b] => match dct? a.m with
    | some kvs => match b.m with
      | .d k => if kOk kvs k = true then .ok (.p ((look? kvs k).getD .none)) else .bad
      | _ => .bad
    | none => .bad
  | _ => .bad
def get3 : Pf
  | [a, b, c] => match dct? a.m with
    | some kvs => match b.m, c.m with
      | .d k, .d y => if kOk kvs k = true then .ok (.p ((look? kvs k).getD y)) else .bad
      | _, _ => .bad
    | none => .bad
  | _ => .bad
def isD (r : Rv) : Bool := (dct? r.m).isSome
def slc (xs : List D) (lo hi : Option Int) : List D := (xs.drop (HT.sIx xs.length 0 lo)).take (HT.sIx xs.length xs.length hi - HT.sIx xs.length 0 lo)
def slice (lo hi : Option Int) (a : Rv) : Res Rv := match a.m with
  | .s xs => .ok (.o (.v (slc xs lo hi)))
  | _ => match a.m.items with
    | some (false, xs) => .ok (.o (.v (slc xs lo hi)))
    | some (true, xs) => .ok (.p (.tuple (slc xs lo hi)))
    | none => .bad
/-- the class of a datum -/
def tyOf : D → String
  | .none => "NoneType"
  | .bool _ => "bool"
  | .int _ => "int"
  | .str _ => "str"
  | .list _ => "list"
  | .tuple _ => "tuple"
  | .dict _ => "dict"
def isTy (a b : String) : Bool := a == b || (a == "bool" && b == "int")
def tyKnown (b : String) : Bool := b == "int" || b == "bool" || b == "str" || b == "list" || b == "tuple" || b == "dict"
def isi (cs : List String) (a : Rv) : Res Rv := if a.m.fine = true then .ok (.p (.bool (cs.any fun c => isTy (tyOf a.data) c))) else .bad
end P
end Oa

/-! Part 5m: a tuple times one. -/
namespace Oa
open PySem PySem.Spec PyProof.Rows L2
theorem tuple_mul1 (l : Addr) (items : Array Value) (n : Nat) (dd : Option Addr) (sl : Array (Option Value)) (u : Tok) :
    Meets (Builtin.«tuple.__mul__» ⟨[.ref l, .int 1 u], []⟩) (fun _ R s => s.heap.get? l = some { cls := .type "tuple", dict := dd, data := .seq items n, slots := sl } ∧ R (.ok (.ret (Value.ref l))) s) :=
  .of_wp fun prog w A R s h => by
    obtain ⟨hp, g, d, tk, os⟩ := s
    obtain ⟨hl, h⟩ := h
    have c1 : (items.isEmpty || (1 : Int) == 1) = true := by rw [show ((1 : Int) == 1) = true from rfl, Bool.or_true]
    have f1 := AutoSeq1.idx_int
    wp_walk using wpAny_loadPart' hl
    exact ⟨_, rfl, h⟩
theorem op_one {X : Cx} : OpR X (binaryOp .Mult) (fun x y H Q => ∃ l xs, x = .ref l ∧ y = .int 1 ∧ SqT X.K H l xs ∧ Q (.ref l) H) := by
  intro pins s σ H x y v u Q I rx ry h
  obtain ⟨l, xs, rfl, rfl, hT, q⟩ := h
  cases rx
  obtain ⟨t, rfl⟩ := ry
  obtain ⟨its, r, ⟨⟨cls, dd, data, sl⟩, ho, hc, n, hd⟩, hs⟩ := I.tuple hT
  simp only at hc hd
  subst hc hd
  exact wpAny_binaryOp_repeat_ref (T := "tuple") (U := "int") (by decide) ⟨_, ho, rfl⟩ (fun s' => typeIs_int s' 1 t) noFill_tuple_mul F.fills_int_mul F.slot_int_rmul repeat_tuple F.slot_int_index.lookup
    (call_meets F.slot_int_rmul (typeIs_int s 1 t) F.entry_int_rmul (F.args_int_rmul_2 _ _) (int_rmul_tuple 1 t l its.toArray n dd sl)
      ⟨ho, rfl, ⟨_, ho, rfl⟩, call_meets F.slot_tuple_mul ⟨_, ho, rfl⟩ F.entry_tuple_mul (F.args_tuple_mul_2 _ _) (tuple_mul1 l its.toArray n dd sl t) ⟨ho, .ref l, H, I.tok _, rfl, q⟩⟩)
end Oa

/-! Part 5: the primitives are what the machine does. -/
namespace Oa
open PySem PySem.Spec PyProof.Rows L2
section
variable {X : Cx}
abbrev Bin (X : Cx) (p : Pf) : R2 := fun x y H Q => rP X.K X.w p [x, y] H Q
abbrev Una (X : Cx) (p : Pf) : V → Hp → VK → Prop := fun x H Q => rP X.K X.w p [x] H Q

theorem Res.ok_bind {α β : Type} {r : Res α} {f : α → Res β} {b : β} (h : r.bind f = .ok b) : ∃ a, r = .ok a ∧ f a = .ok b := by
  cases r with
  | ok a => exact ⟨a, rfl, h⟩
  | er c x => cases h
  | bad => cases h
theorem ii_of {g : Int → Int → Res D} {K : PySem.W.Frag} {w : World} {F H : Hp} {x y : V} {rs : List Rv} {T : List Addr} {out : Rv} (h : RRs K w F H [x, y] rs T) (e : P.ii g rs = .ok out) :
    ∃ i j d, x = .int i ∧ y = .int j ∧ g i j = .ok d ∧ out = .p d := by
  obtain ⟨a, b, T1, T2, rfl, rfl, h1, h2⟩ := h.two
  unfold P.ii at e
  simp only at e
  split at e
  · rename_i i j ei ej
    obtain ⟨d, e1, e2⟩ := Res.ok_bind e
    refine ⟨i, j, d, h1.int ei, h2.int ej, e1, ?_⟩
    cases e2
    rfl
  · cases e
/-- an operation on two ints whose result is flat -/
theorem op_ii {f : Value → Value → Sem Value} {g : Int → Int → Res D} (h : ∀ (pins : List (Addr × Obj)) (s : Shared) (σ : L2.St) (H : Hp) (i j : Int) (d : D) (t u : Tok) (Q : VK), Inv X pins σ H s → g i j = .ok d →
    (∀ x, (∀ F, RepD X.K X.w F x d) → Q x H) → wpAny (model X.prog X.w) X.A (f (.int i t) (.int j u)) (EP X pins σ Q) X.xe s) : OpR X f (Bin X (P.ii g)) := by
  intro pins s σ H x y v u Q I rx ry hq
  obtain ⟨F, T, rs, out, gs, hr, he, q⟩ := hq
  obtain ⟨i, j, d, rfl, rfl, e1, rfl⟩ := ii_of hr he
  obtain ⟨t, rfl⟩ := rx
  obtain ⟨t', rfl⟩ := ry
  exact h pins s σ H i j d t t' Q I e1 fun x hx => end_flat gs q (hx F)
theorem rep_int {K : PySem.W.Frag} {w : World} {F : Hp} {i : Int} : RepD K w F (.int i) (.int i) := by simp only [RepD]
theorem rep_bl {K : PySem.W.Frag} {w : World} {F : Hp} {i : Bool} : RepD K w F (.bl i) (.bool i) := by simp only [RepD]
theorem rep_non {K : PySem.W.Frag} {w : World} {F : Hp} : RepD K w F .non .none := by simp only [RepD]
theorem rep_str {K : PySem.W.Frag} {w : World} {F : Hp} {i : Str} : RepD K w F (.str i) (.str i) := by simp only [RepD]

theorem op_Sub : OpR X (binaryOp .Sub) (Bin X P.sub) := op_ii fun pins s σ H i j d t u Q I e k => by
  cases e
  exact op_sub pins s σ H (.int i) (.int j) _ _ Q I ⟨t, rfl⟩ ⟨u, rfl⟩ ⟨i, j, rfl, rfl, k _ fun F => rep_int⟩
theorem op_Div : OpR X (binaryOp .FloorDiv) (Bin X P.fdiv) := op_ii fun pins s σ H i j d t u Q I e k => by
  split at e
  · rename_i hc
    cases e
    exact op_fdivW pins s σ H (.int i) (.int j) _ _ Q I ⟨t, rfl⟩ ⟨u, rfl⟩ ⟨i, j, rfl, rfl, hc, k _ fun F => rep_int⟩
  · cases e
theorem op_Mod : OpR X (binaryOp .Mod) (Bin X P.mod) := op_ii fun pins s σ H i j d t u Q I e k => by
  split at e
  · rename_i hc
    cases e
    exact op_mod pins s σ H (.int i) (.int j) _ _ Q I ⟨t, rfl⟩ ⟨u, rfl⟩ ⟨i, j, rfl, rfl, hc, k _ fun F => rep_int⟩
  · cases e
theorem op_Pow : OpR X (binaryOp .Pow) (Bin X P.pow) := op_ii fun pins s σ H i j d t u Q I e k => by
  split at e
  · rename_i hc
    cases e
    exact op_pow pins s σ H (.int i) (.int j) _ _ Q I ⟨t, rfl⟩ ⟨u, rfl⟩ ⟨i, j, rfl, rfl, ⟨hc.1, hc.2.1, hc.2.2⟩, k _ fun F => rep_int⟩
  · cases e
theorem op_And : OpR X (binaryOp .BitAnd) (Bin X P.band) := op_ii fun pins s σ H i j d t u Q I e k => by
  cases e
  exact op_and pins s σ H (.int i) (.int j) _ _ Q I ⟨t, rfl⟩ ⟨u, rfl⟩ ⟨i, j, rfl, rfl, k _ fun F => rep_int⟩
theorem op_Shr : OpR X (binaryOp .RShift) (Bin X P.shr) := op_ii fun pins s σ H i j d t u Q I e k => by
  split at e
  · rename_i hc
    cases e
    exact op_shr pins s σ H (.int i) (.int j) _ _ Q I ⟨t, rfl⟩ ⟨u, rfl⟩ ⟨i, j, rfl, rfl, hc, k _ fun F => rep_int⟩
  · cases e
theorem un_Neg : UnR X (unaryOp .USub) (Una X P.neg) := by
  intro pins s σ H x v Q I rx hq
  obtain ⟨F, T, rs, out, gs, hr, he, q⟩ := hq
  obtain ⟨r, rfl, h1⟩ := hr.one
  unfold P.neg at he
  simp only at he
  split at he
  · rename_i i ei
    cases he
    have := h1.int ei
    subst this
    exact un_neg pins s σ H _ v Q I rx ⟨i, rfl, end_flat gs q rep_int⟩
  · cases he
theorem vals_of {K : PySem.W.Frag} {w : World} {F : Hp} {n : Nat} {ds : List D} {vs : List V} (h : RepDs K w F vs ds) : ∀ k : Nat, RepDs K w F (List.replicate k vs).flatten (List.replicate k ds).flatten
  | 0 => by simp only [List.replicate_zero, List.flatten_nil, RepDs]
  | k + 1 => by
    rw [List.replicate_succ, List.replicate_succ, List.flatten_cons, List.flatten_cons]
    exact h.app (vals_of (n := n) h k)
theorem op_Add : OpR X (binaryOp .Add) (Bin X P.add) := by
  intro pins s σ H x y v u Q I rx ry hq
  obtain ⟨F, T, rs, out, gs, hr, he, q⟩ := hq
  obtain ⟨a, b, T1, T2, rfl, rfl, h1, h2⟩ := hr.two
  unfold P.add at he
  simp only at he
  split at he
  · rename_i i j ei ej
    cases he
    have e1 := h1.int ei
    have e2 := h2.int ej
    subst e1 e2
    exact op_add pins s σ H _ _ _ _ Q I rx ry ⟨i, j, rfl, rfl, end_flat gs q rep_int⟩
  · split at he
    · rename_i xs ys ei ej
      split at he
      · rename_i hz
        cases he
        obtain ⟨l1, v1, rfl, k1, r1⟩ := h1.lst gs.sub ei
        obtain ⟨l2, v2, rfl, k2, r2⟩ := h2.lst gs.sub ej
        refine op_cat pins s σ H _ _ _ _ Q I rx ry ⟨l1, l2, v1, v2, rfl, rfl, k1, k2, ?_, fun p hp => end_list gs q (r1.app r2) hp⟩
        rw [r1.length, r2.length, ← big_eq]
        exact hz
      · cases he
    · rename_i xs ys ei ej
      split at he
      · rename_i hz
        cases he
        obtain ⟨l1, v1, rfl, k1, r1, t1⟩ := h1.tup ei
        obtain ⟨l2, v2, rfl, k2, r2, t2⟩ := h2.tup ej
        refine op_catA pins s σ H _ _ _ _ Q I rx ry ⟨l1, l2, v1, v2, rfl, rfl, (Same.tupAt gs.sub k1).sqT, (Same.tupAt gs.sub k2).sqT, ?_, fun e => ?_, fun _ e => ?_, fun _ _ p hp => end_tup gs q (r1.app r2) hp⟩
        · rw [r1.length, r2.length, ← big_eq]
          exact hz
        · have e0 : xs = [] := List.eq_nil_of_length_eq_zero (by rw [← r1.length, e] <;> rfl)
          subst e0
          exact end_flat gs q t2
        · have e0 : ys = [] := List.eq_nil_of_length_eq_zero (by rw [← r2.length, e] <;> rfl)
          subst e0
          rw [List.append_nil] at q
          exact end_flat gs q t1
      · cases he
    · cases he
theorem op_Mul : OpR X (binaryOp .Mult) (Bin X P.mul) := by
  intro pins s σ H x y v u Q I rx ry hq
  obtain ⟨F, T, rs, out, gs, hr, he, q⟩ := hq
  obtain ⟨a, b, T1, T2, rfl, rfl, h1, h2⟩ := hr.two
  unfold P.mul at he
  simp only at he
  split at he
  · rename_i i j ei ej
    split at he
    · rename_i hc
      cases he
      have e1 := h1.int ei
      have e2 := h2.int ej
      subst e1 e2
      exact op_mulW pins s σ H _ _ _ _ Q I rx ry ⟨i, j, rfl, rfl, hc, end_flat gs q rep_int⟩
    · cases he
  · rename_i k ek _
    have e2 := h2.int (by assumption)
    subst e2
    split at he
    · rename_i xs ei
      split at he
      · rename_i hz
        cases he
        obtain ⟨l1, v1, rfl, k1, r1⟩ := h1.lst gs.sub ei
        refine op_rep pins s σ H _ _ _ _ Q I rx ry ⟨l1, k, v1, rfl, rfl, k1, by omega, by omega, ?_, fun p hp => end_list gs q (vals_of (n := 0) r1 _) hp⟩
        rw [r1.length, ← big_eq]
        exact hz.2.2
      · cases he
    · rename_i xs ei
      split at he
      · rename_i hz
        cases he
        subst hz
        obtain ⟨l1, v1, rfl, k1, r1, t1⟩ := h1.tup ei
        exact op_one pins s σ H _ _ _ _ Q I rx ry ⟨l1, v1, rfl, rfl, (Same.tupAt gs.sub k1).sqT, end_flat gs q t1⟩
      split at he
      · rename_i hz
        cases he
        obtain ⟨l1, v1, rfl, k1, r1, t1⟩ := h1.tup ei
        refine op_repT pins s σ H _ _ _ _ Q I rx ry ⟨l1, k, v1, rfl, rfl, (Same.tupAt gs.sub k1).sqT, fun e => ?_, hz.2.1, hz.2.2.1, by rw [r1.length]; exact hz.2.2.2, fun p hp => end_tup gs q (vals_of (n := 0) r1 _) hp⟩
        have e0 : xs = [] := List.eq_nil_of_length_eq_zero (by rw [← r1.length, e] <;> rfl)
        rw [e0] at hz
        exact absurd hz.1 (by simp)
      · cases he
    · cases he
  · cases he

/-! ### comparisons -/
theorem dd_of {c g : D → D → Bool} {K : PySem.W.Frag} {w : World} {F H : Hp} {x y : V} {rs : List Rv} {T : List Addr} {out : Rv} (gs : GS F H T) (h : RRs K w F H [x, y] rs T) (e : P.dd c g rs = .ok out) :
    ∃ d d', RepD K w H x d ∧ RepD K w H y d' ∧ c d d' = true ∧ out = .p (.bool (g d d')) := by
  obtain ⟨a, b, T1, T2, rfl, rfl, h1, h2⟩ := h.two
  unfold P.dd at e
  simp only at e
  split at e
  · rename_i hc
    cases e
    exact ⟨_, _, h1.read hc.1 gs.sub, h2.read hc.2.1 gs.sub, hc.2.2, rfl⟩
  · cases e
theorem op_dd {f : Value → Value → Sem Value} {c g : D → D → Bool} (h : ∀ (pins : List (Addr × Obj)) (s : Shared) (σ : L2.St) (H : Hp) (d d' : D) (v u : Value) (as bs : List Addr) (Q : Value → Shared → Prop), Inv X pins σ H s → c d d' = true → Reads s.heap v d as → Reads s.heap u d' bs →
    Q (.bool (g d d')) s → wpAny (model X.prog X.w) X.A (f v u) Q X.xe s) : OpR X f (Bin X (P.dd c g)) := by
  intro pins s σ H x y v u Q I rx ry hq
  obtain ⟨F, T, rs, out, gs, hr, he, q⟩ := hq
  obtain ⟨d, d', e1, e2, hc, rfl⟩ := dd_of gs hr he
  obtain ⟨as, r1⟩ := e1.reads I _ rx
  obtain ⟨bs, r2⟩ := e2.reads I _ ry
  exact h pins s σ H d d' v u as bs _ I hc r1 r2 ⟨.bl _, H, I, rfl, end_flat gs q rep_bl⟩
theorem okEq_of {x y : D} (h : P.okEq x y = true) : x.plain = true ∧ y.plain = true ∧ x.depth ≤ 60 := by
  unfold P.okEq at h
  simp only [Bool.and_eq_true, decide_eq_true_eq] at h
  exact ⟨h.1.1, h.1.2, h.2⟩
theorem okLt_of {x y : D} (h : P.okLt x y = true) : PySem.W.alike x y = true ∧ x ≠ .none ∧ x.depth ≤ 60 := by
  unfold P.okLt at h
  simp only [Bool.and_eq_true, decide_eq_true_eq] at h
  exact ⟨h.1.1, fun e => by rw [e] at h; exact absurd h.1.2 Bool.false_ne_true, h.2⟩
theorem min60 {k : Nat} {A : Around} (r : Room k A) {a b : Nat} (h : a ≤ 60) : A.units + min a b < cLine := by
  have := r.units
  have : min a b ≤ a := Nat.min_le_left _ _
  omega
variable {k : Nat}
theorem op_Eq (hr : Room k X.A) : OpR X (compareOp .Eq) (Bin X P.eq) := op_dd fun pins s σ H d d' v u as bs Q I hc r1 r2 q => by
  obtain ⟨h1, h2, h3⟩ := okEq_of hc
  exact PySem.SeqAt.eq_plain r1 r2 h1 h2 (min60 hr h3) q
theorem op_Ne (hr : Room k X.A) : OpR X (compareOp .NotEq) (Bin X P.ne) := op_dd fun pins s σ H d d' v u as bs Q I hc r1 r2 q => by
  obtain ⟨h1, h2, h3⟩ := okEq_of hc
  exact PySem.SeqAt.ne_plain r1 r2 h1 h2 (min60 hr h3) q
theorem op_Lt (hr : Room k X.A) : OpR X (compareOp .Lt) (Bin X P.lt) := op_dd fun pins s σ H d d' v u as bs Q I hc r1 r2 q => by
  obtain ⟨h1, h2, h3⟩ := okLt_of hc
  exact PySem.W.lt_data r1 r2 h1 h2 (min60 hr h3) q
theorem op_Le (hr : Room k X.A) : OpR X (compareOp .LtE) (Bin X P.le) := op_dd fun pins s σ H d d' v u as bs Q I hc r1 r2 q => by
  obtain ⟨h1, h2, h3⟩ := okLt_of hc
  exact PySem.W.le_data r1 r2 h1 h2 (min60 hr h3) q
theorem op_Gt (hr : Room k X.A) : OpR X (compareOp .Gt) (Bin X P.gt) := op_dd fun pins s σ H d d' v u as bs Q I hc r1 r2 q => by
  obtain ⟨h1, h2, h3⟩ := okLt_of hc
  exact PySem.W.gt_data r1 r2 h1 h2 (min60 hr h3) q
theorem op_Ge (hr : Room k X.A) : OpR X (compareOp .GtE) (Bin X P.ge) := op_dd fun pins s σ H d d' v u as bs Q I hc r1 r2 q => by
  obtain ⟨h1, h2, h3⟩ := okLt_of hc
  exact PySem.W.ge_data r1 r2 h1 h2 (min60 hr h3) q
theorem okIn_of {x c : D} (h : P.okIn x c = true) : ∃ xs, P.seqOf c = some xs ∧ PyData.plainAll xs = true ∧ x.plain = true ∧ x.depth ≤ 60 := by
  unfold P.okIn at h
  split at h
  · rename_i xs e
    simp only [Bool.and_eq_true, decide_eq_true_eq] at h
    exact ⟨xs, e, h.1.1, h.1.2, h.2⟩
  · cases h
theorem room_in {k : Nat} {A : Around} (r : Room k A) {a b : Nat} (h : b ≤ 60) : A.units + 1 + min a b < cLine := by
  have := r.units
  have : min a b ≤ b := Nat.min_le_right _ _
  omega
theorem seqOf_cases {c : D} {xs : List D} (h : P.seqOf c = some xs) : c = .list xs ∨ c = .tuple xs := by
  cases c with
  | list ys => left; simp only [P.seqOf, Option.some.injEq] at h; rw [h]
  | tuple ys => right; simp only [P.seqOf, Option.some.injEq] at h; rw [h]
  | _ => simp [P.seqOf] at h
theorem op_In0 (hr : Room k X.A) : OpR X (compareOp .In) (Bin X P.isin0) := op_dd fun pins s σ H d d' v u as bs Q I hc r1 r2 q => by
  obtain ⟨xs, h1, h2, h3, h4⟩ := okIn_of hc
  unfold P.memOf at q
  rw [h1] at q
  rcases seqOf_cases h1 with rfl | rfl
  · exact PySem.SeqAt.in_list_data r2 r1 h2 h3 (room_in hr h4) q
  · exact PySem.SeqAt.in_tuple_data r2 r1 h2 h3 (room_in hr h4) q
theorem op_NotIn0 (hr : Room k X.A) : OpR X (compareOp .NotIn) (Bin X P.notin0) := op_dd fun pins s σ H d d' v u as bs Q I hc r1 r2 q => by
  obtain ⟨xs, h1, h2, h3, h4⟩ := okIn_of hc
  unfold P.memOf at q
  rw [h1] at q
  rcases seqOf_cases h1 with rfl | rfl
  · exact PySem.SeqAt.notIn_list_data r2 r1 h2 h3 (room_in hr h4) q
  · exact PySem.SeqAt.notIn_tuple_data r2 r1 h2 h3 (room_in hr h4) q
theorem in_dct {A : Around} {E : Value → Shared → Prop} {pins : List (Addr × Obj)} {σ : L2.St} {H : Hp} {s : Shared} {x y : V} {v u : Value} {kvs : List (D × D)} {d : D} {Q : Value → Shared → Prop} (hu : A.units + 9 < cLine) (I : Inv X pins σ H s) (rx : RelV x v) (ry : RelV y u) (hx : RepD X.K X.w H x d) (hy : RepD X.K X.w H y (.dict kvs)) (ok : kOk kvs d = true)
    (q : ∀ s', Inv X pins σ H s' → Q (.bool (look? kvs d).isSome) s') : wpAny (model X.prog X.w) A (compareOp .In v u) Q E s := by
  simp only [RepD] at hy
  obtain ⟨a, ents, rfl, h1, h2, h3⟩ := hy
  cases ry
  rcases kOk_cases ok with ⟨ok, kk, hk⟩ | ⟨ok, kk, hk⟩
  · obtain ⟨vs, t1, t2, t3, _⟩ := dct_tab I h1 h2 h3 ok
    have hv := atom_val hk hx
    subst hv
    refine wpAny_in_of (kV_is rx) t3 t1.mapOf ?_
    have e : (valueAt vs kk).isSome = (look? kvs d).isSome := by
      rcases t2.look hk with ⟨e1, e2⟩ | ⟨u, d', x', e1, e2, _⟩
      · rw [e1, e2] <;> rfl
      · rw [e1, e2] <;> rfl
    rw [e]
    exact q _ (I.tok _)
  · obtain ⟨xs, t1, t2, t3, _⟩ := dct_tabH I (Same.refl _) h1 h2 h3 ok
    obtain ⟨b, rfl⟩ := tup_val hk hx
    have hn := nested_is I d hx rx (tup_key hk).1
    cases rx
    refine wpAny_in_heap (knd := nestedKind X.prog X.w) (k := kk) (by show A.in1.units + 8 < cLine; rw [Around.in1_units]; omega) ⟨hn, (tup_key hk).2.1⟩ t3 t1 ?_
    have e : (atKey xs kk).isSome = (look? kvs d).isSome := by
      rcases t2.look hk with ⟨e1, e2⟩ | ⟨u, d', x', e1, e2, _⟩
      · rw [e1, e2] <;> rfl
      · rw [e1, e2] <;> rfl
    rw [e]
    exact q _ (I.tok _)
theorem notin_dct {A : Around} {E : Value → Shared → Prop} {pins : List (Addr × Obj)} {σ : L2.St} {H : Hp} {s : Shared} {x y : V} {v u : Value} {kvs : List (D × D)} {d : D} {Q : Value → Shared → Prop} (hu : A.units + 9 < cLine) (I : Inv X pins σ H s) (rx : RelV x v) (ry : RelV y u) (hx : RepD X.K X.w H x d) (hy : RepD X.K X.w H y (.dict kvs)) (ok : kOk kvs d = true)
    (q : ∀ s', Inv X pins σ H s' → Q (.bool !(look? kvs d).isSome) s') : wpAny (model X.prog X.w) A (compareOp .NotIn v u) Q E s := by
  simp only [RepD] at hy
  obtain ⟨a, ents, rfl, h1, h2, h3⟩ := hy
  cases ry
  rcases kOk_cases ok with ⟨ok, kk, hk⟩ | ⟨ok, kk, hk⟩
  · obtain ⟨vs, t1, t2, t3, _⟩ := dct_tab I h1 h2 h3 ok
    have hv := atom_val hk hx
    subst hv
    refine wpAny_notIn_of (kV_is rx) t3 t1.mapOf ?_
    have e : (valueAt vs kk).isSome = (look? kvs d).isSome := by
      rcases t2.look hk with ⟨e1, e2⟩ | ⟨u, d', x', e1, e2, _⟩
      · rw [e1, e2] <;> rfl
      · rw [e1, e2] <;> rfl
    rw [e]
    exact q _ (I.tok _)
  · obtain ⟨xs, t1, t2, t3, _⟩ := dct_tabH I (Same.refl _) h1 h2 h3 ok
    obtain ⟨b, rfl⟩ := tup_val hk hx
    have hn := nested_is I d hx rx (tup_key hk).1
    cases rx
    refine wpAny_notIn_heap (knd := nestedKind X.prog X.w) (k := kk) (by show A.in1.units + 8 < cLine; rw [Around.in1_units]; omega) ⟨hn, (tup_key hk).2.1⟩ t3 t1 ?_
    have e : (atKey xs kk).isSome = (look? kvs d).isSome := by
      rcases t2.look hk with ⟨e1, e2⟩ | ⟨u, d', x', e1, e2, _⟩
      · rw [e1, e2] <;> rfl
      · rw [e1, e2] <;> rfl
    rw [e]
    exact q _ (I.tok _)
theorem isin_cases {rs : List Rv} {out : Rv} (h : P.isin rs = .ok out) : P.isin0 rs = .ok out ∨ ∃ a b kvs, rs = [a, b] ∧ a.m.fine = true ∧ b.m.fine = true ∧ b.m.data = .dict kvs ∧ kOk kvs a.m.data = true ∧ out = .p (.bool (look? kvs a.m.data).isSome) := by
  unfold P.isin P.dd at h
  split at h
  · rename_i a b
    split at h
    · rename_i hc
      cases h
      cases e : b.m.data with
      | dict kvs =>
        refine .inr ⟨a, b, kvs, rfl, hc.1, hc.2.1, e, ?_, ?_⟩
        · have : P.okInD a.data b.m.data = true := hc.2.2
          rw [e] at this
          exact this
        · show Rv.p (.bool (P.memOfD a.data b.m.data)) = _
          rw [e]
          rfl
      | _ =>
        refine .inl ?_
        have h2 : P.okInD a.data b.m.data = true := hc.2.2
        show (if a.m.fine = true ∧ b.m.fine = true ∧ P.okIn a.data b.m.data = true then Res.ok (Rv.p (.bool (P.memOf a.data b.m.data))) else Res.bad) = Res.ok (Rv.p (.bool (P.memOfD a.data b.m.data)))
        rw [e] at h2 ⊢
        rw [if_pos ⟨hc.1, hc.2.1, h2⟩]
        rfl
    · cases h
  · cases h
theorem notin_cases {rs : List Rv} {out : Rv} (h : P.notin rs = .ok out) : P.notin0 rs = .ok out ∨ ∃ a b kvs, rs = [a, b] ∧ a.m.fine = true ∧ b.m.fine = true ∧ b.m.data = .dict kvs ∧ kOk kvs a.m.data = true ∧ out = .p (.bool !(look? kvs a.m.data).isSome) := by
  unfold P.notin P.dd at h
  split at h
  · rename_i a b
    split at h
    · rename_i hc
      cases h
      cases e : b.m.data with
      | dict kvs =>
        refine .inr ⟨a, b, kvs, rfl, hc.1, hc.2.1, e, ?_, ?_⟩
        · have : P.okInD a.data b.m.data = true := hc.2.2
          rw [e] at this
          exact this
        · show Rv.p (.bool !(P.memOfD a.data b.m.data)) = _
          rw [e]
          rfl
      | _ =>
        refine .inl ?_
        have h2 : P.okInD a.data b.m.data = true := hc.2.2
        show (if a.m.fine = true ∧ b.m.fine = true ∧ P.okIn a.data b.m.data = true then Res.ok (Rv.p (.bool !(P.memOf a.data b.m.data))) else Res.bad) = Res.ok (Rv.p (.bool !(P.memOfD a.data b.m.data)))
        rw [e] at h2 ⊢
        rw [if_pos ⟨hc.1, hc.2.1, h2⟩]
        rfl
    · cases h
  · cases h
theorem op_In (hr : Room k X.A) : OpR X (compareOp .In) (Bin X P.isin) := by
  intro pins s σ H x y v u Q I rx ry hq
  obtain ⟨F, T, rs, out, gs, hr', he, q⟩ := hq
  rcases isin_cases he with he | ⟨a, b, kvs, rfl, f1, f2, e1, e2, rfl⟩
  · exact op_In0 hr pins s σ H x y v u Q I rx ry ⟨F, T, rs, out, gs, hr', he, q⟩
  · obtain ⟨a', b', T1, T2, e0, rfl, h1, h2⟩ := hr'.two
    cases e0
    have r2 := h2.read f2 gs.sub
    rw [show b.data = .dict kvs from e1] at r2
    exact in_dct (by have := hr.units; omega) I rx ry (h1.read f1 gs.sub) r2 e2 fun s' I' => ⟨.bl _, H, I', rfl, end_flat gs q rep_bl⟩
theorem op_NotIn (hr : Room k X.A) : OpR X (compareOp .NotIn) (Bin X P.notin) := by
  intro pins s σ H x y v u Q I rx ry hq
  obtain ⟨F, T, rs, out, gs, hr', he, q⟩ := hq
  rcases notin_cases he with he | ⟨a, b, kvs, rfl, f1, f2, e1, e2, rfl⟩
  · exact op_NotIn0 hr pins s σ H x y v u Q I rx ry ⟨F, T, rs, out, gs, hr', he, q⟩
  · obtain ⟨a', b', T1, T2, e0, rfl, h1, h2⟩ := hr'.two
    cases e0
    have r2 := h2.read f2 gs.sub
    rw [show b.data = .dict kvs from e1] at r2
    exact notin_dct (by have := hr.units; omega) I rx ry (h1.read f1 gs.sub) r2 e2 fun s' I' => ⟨.bl _, H, I', rfl, end_flat gs q rep_bl⟩
theorem isNone_of {K : PySem.W.Frag} {w : World} {F : Hp} {x : V} {d : D} (h : RepD K w F x d) : decide (x = .non) = P.isNone d := by
  cases d with
  | none => simp only [RepD] at h; subst h; rfl
  | bool b => simp only [RepD] at h; subst h; rfl
  | int b => simp only [RepD] at h; subst h; rfl
  | str b => simp only [RepD] at h; subst h; rfl
  | tuple b => simp only [RepD] at h; obtain ⟨a, _, rfl, _⟩ := h; rfl
  | list b => simp only [RepD] at h; obtain ⟨a, _, rfl, _⟩ := h; rfl
  | dict b => simp only [RepD] at h; obtain ⟨a, _, rfl, _⟩ := h; rfl
theorem op_Is : OpR X (compareOp .Is) (Bin X P.isp) := by
  intro pins s σ H x y v u Q I rx ry hq
  obtain ⟨F, T, rs, out, gs, hr, he, q⟩ := hq
  obtain ⟨a, b, T1, T2, rfl, rfl, h1, h2⟩ := hr.two
  unfold P.isp at he
  simp only at he
  split at he
  · rename_i eb
    split at he
    · rename_i hf
      cases he
      have hy := h2.pure eb
      simp only [RepD] at hy
      subst hy
      exact op_isN pins s σ H _ _ _ _ Q I rx ry ⟨rfl, end_flat gs q (by rw [isNone_of (h1.read hf gs.sub)]; exact rep_bl)⟩
    · cases he
  · split at he
    · rename_i i j ei ej
      cases he
      have e1 := h1.bl ei
      have e2 := h2.bl ej
      subst e1 e2
      exact op_is_bl pins s σ H _ _ _ _ Q I rx ry ⟨i, j, rfl, rfl, end_flat gs q rep_bl⟩
    · cases he
theorem op_IsNot : OpR X (compareOp .IsNot) (Bin X P.isnot) := by
  intro pins s σ H x y v u Q I rx ry hq
  obtain ⟨F, T, rs, out, gs, hr, he, q⟩ := hq
  obtain ⟨a, b, T1, T2, rfl, rfl, h1, h2⟩ := hr.two
  unfold P.isnot at he
  simp only at he
  split at he
  · rename_i eb
    split at he
    · rename_i hf
      cases he
      have hy := h2.pure eb
      simp only [RepD] at hy
      subst hy
      exact op_notN pins s σ H _ _ _ _ Q I rx ry ⟨rfl, end_flat gs q (by rw [isNone_of (h1.read hf gs.sub)]; exact rep_bl)⟩
    · cases he
  · split at he
    · rename_i i j ei ej
      cases he
      have e1 := h1.bl ei
      have e2 := h2.bl ej
      subst e1 e2
      exact op_isnot_bl pins s σ H _ _ _ _ Q I rx ry ⟨i, j, rfl, rfl, end_flat gs q rep_bl⟩
    · cases he
end
end Oa

/-! Part 5t: sorted of a tuple. -/
namespace Oa
open PySem PySem.Spec PyProof.Rows PySem.W
/-- sorted, its operand a tuple: a new list l, all that stood stays -/
theorem sorted_tup {prog : Program} {w : World} {A : Around} {E : Value → Shared → Prop} {s : Shared} {β : Type} {t : Addr} {vs : List Value} {bs : List β} {enc : β → PyData} {R : Value → β → Prop} {Q : Value → Shared → Prop}
    (ht : s.heap.IsTuple t vs.toArray) (e : EachIs R vs bs) (er : EachIs (fun v b => ∃ as, Reads s.heap v (enc b) as) vs bs) (al : AllAlike (bs.map enc)) (so : Sortable (bs.map enc)) (few : bs.length ≤ sizeLine) (deep : ∀ b, b ∈ bs → A.units + 2 + (enc b).depth < cLine)
    (go : ∀ (l : Addr) (h2 : Heap) (out : List Value) (c : Nat), s.heap.get? l = none → (∀ b o, s.heap.get? b = some o → h2.get? b = some o) → h2.get? l = some (seqObj "list" out.toArray c) → EachIs R out (bs.mergeSort (dataLe false enc)) → Q (.ref l) { s with heap := h2 }) :
    wpAny (model prog w) A (call (.builtin "sorted") [.ref t]) Q E s := by
  obtain ⟨o, ho, cls, n, dat⟩ := id ht
  have len : vs.length ≤ sizeLine := e.length.symm ▸ few
  apply call_function_entry_kw kind_sorted plain_sorted entry_sorted (args_sorted1 _)
  unfold Builtin.«sorted»
  apply wpAny_bind (m := checkCount "sorted" 1 1 _)
  apply wpAny_pure
  apply wpAny_bind
  refine wpAny_collect_seq t (.inr rfl) ho cls dat (fun h1 old => ?_) (Nat.le_trans (Nat.le_of_eq List.size_toArray) len)
  apply wpAny_bind
  refine wpAny_newList ?_ len
  obtain ⟨l, hl⟩ : ∃ l, l = h1.objs.size := ⟨_, rfl⟩
  obtain ⟨hp, ep⟩ : ∃ hp, hp = h1.push (seqObj "list" vs.toArray 0) := ⟨_, rfl⟩
  have new : hp.get? l = some (seqObj "list" vs.toArray 0) := by rw [ep, hl]; exact Heap.get?_push_size _ rfl
  have none : s.heap.get? l = none := by
    cases q : s.heap.get? l with
    | none => rfl
    | some u => exact absurd (Heap.lt_size (old l u q)) (hl ▸ Nat.lt_irrefl _)
  have ne : ∀ b u, s.heap.get? b = some u → b ≠ l := fun b u q z => by rw [z, none] at q; cases q
  have old2 : ∀ b u, s.heap.get? b = some u → hp.get? b = some u := fun b u q => by rw [ep]; exact Heap.get?_push_of_some _ (old b u q)
  show wpAny (model prog w) A.in1 _ _ E { s with heap := h1.push (seqObj "list" vs.toArray 0) }
  dsimp only
  rw [← ep, ← hl]
  have er2 : EachIs (fun v b => ∃ as, Reads (sortingHeap hp l vs) v (enc b) as) vs bs := er.mono fun v b ⟨as, r⟩ => ⟨as, PyProof.Rows.Reads.keeps (fun b u q => sortingHeap_old (ne b u q) (old2 b u q)) r⟩
  have kd : SortsAt prog w A.in1.in1 { s with heap := sortingHeap hp l vs } (dataKind (sortingHeap hp l vs) (bs.map enc)) vs :=
    SortsAt.data (s := { s with heap := sortingHeap hp l vs }) (each_map (R := fun v d => ∃ as, Reads (sortingHeap hp l vs) v d as) enc er2) al so (bound_map (A := A.in1.in1) deep)
  apply wpAny_bind
  apply wpAny_holding
  refine wpAny_call_entry_kw slot_list_sort ⟨_, new, rfl⟩ entry_list_sort (list_sort_vals (s := { s with heap := hp }) new kd len ⟨.none, rfl, ?_⟩) (args_list_sort _)
  obtain ⟨c, at2⟩ := sortedHeap_at (out := (sortVals (dataKind (sortingHeap hp l vs) (bs.map enc)) false vs vs).toArray) new
  exact wpAny_pure ⟨.ref l, rfl, go l _ _ c none (fun b u q => (sortedHeap_old (ne b u q) (Heap.lt_size (old2 b u q))).trans (old2 b u q)) at2 (sortVals_data false e er2 al)⟩
end Oa

/-! Part 6: the built-ins that are called, items, slices. -/
namespace Oa
open PySem PySem.Spec PyProof.Rows L2
section
variable {X : Cx} {k : Nat}
abbrev Cal (X : Cx) (p : Pf) : List V → Hp → VK → Prop := fun xs H Q => xs.length = 1 ∧ rP X.K X.w p xs H Q

theorem len_one {xs : List V} (h : xs.length = 1) : ∃ x, xs = [x] := by
  match xs, h with
  | [x], _ => exact ⟨x, rfl⟩
theorem call_Len : CallR X (.builtin "len") (Cal X P.len) := by
  intro pins s σ H xs us Q I rx hq
  obtain ⟨hl, F, T, rs, out, gs, hr, he, q⟩ := hq
  obtain ⟨x, rfl⟩ := len_one hl
  obtain ⟨r, rfl, h1⟩ := hr.one
  unfold P.len at he
  simp only at he
  split at he
  · rename_i hf
    have hd := h1.read hf gs.sub
    revert he
    cases e : r.data with
    | list ds =>
      intro he
      cases he
      rw [e] at hd
      simp only [RepD] at hd
      obtain ⟨a, vs, rfl, h2, h3⟩ := hd
      exact call_len_seq pins s σ H _ us Q I rx ⟨a, vs, rfl, .inl (SqL.of h2), end_flat gs q (by rw [h3.length]; exact rep_int)⟩
    | tuple ds =>
      intro he
      cases he
      rw [e] at hd
      simp only [RepD] at hd
      obtain ⟨a, vs, rfl, h2, h3⟩ := hd
      exact call_len_seq pins s σ H _ us Q I rx ⟨a, vs, rfl, .inr h2.sqT, end_flat gs q (by rw [h3.length]; exact rep_int)⟩
    | _ => intro he; simp [P.lenOf] at he
  · cases he
theorem call_Int : CallR X (.type "int") (Cal X P.int) := by
  intro pins s σ H xs us Q I rx hq
  obtain ⟨hl, F, T, rs, out, gs, hr, he, q⟩ := hq
  obtain ⟨x, rfl⟩ := len_one hl
  obtain ⟨r, rfl, h1⟩ := hr.one
  unfold P.int at he
  simp only at he
  split at he
  · rename_i i e
    cases he
    have hx := h1.pure e
    simp only [RepD] at hx
    subst hx
    exact call_int1 pins s σ H _ us Q I rx (.inl ⟨i, rfl, end_flat gs q rep_int⟩)
  · rename_i b e
    cases he
    have hx := h1.pure e
    simp only [RepD] at hx
    subst hx
    exact call_int1 pins s σ H _ us Q I rx (.inr ⟨b, rfl, end_flat gs q rep_int⟩)
  · cases he
theorem call_Abs : CallR X (.builtin "abs") (Cal X P.abs) := by
  intro pins s σ H xs us Q I rx hq
  obtain ⟨hl, F, T, rs, out, gs, hr, he, q⟩ := hq
  obtain ⟨x, rfl⟩ := len_one hl
  obtain ⟨r, rfl, h1⟩ := hr.one
  unfold P.abs at he
  simp only at he
  split at he
  · rename_i i e
    cases he
    have hx := h1.int e
    subst hx
    exact call_abs pins s σ H _ us Q I rx ⟨i, rfl, end_flat gs q rep_int⟩
  · cases he
/-- a list's or a tuple's items -/
theorem RR.seq {K : PySem.W.Frag} {w : World} {F H : Hp} {x : V} {r : Rv} {T : List Addr} {b : Bool} {ds : List D} (h : RR K w F H x r T) (s : Same F H) (e : r.m.items = some (b, ds)) :
    ∃ a vs, x = .ref a ∧ ((b = false ∧ H a = some (.lst vs)) ∨ (b = true ∧ TupAt K H a vs ∧ RepD K w F x (.tuple ds))) ∧ RepDs K w F vs ds := by
  cases b with
  | false =>
    obtain ⟨a, vs, h1, h2, h3⟩ := h.lst s e
    exact ⟨a, vs, h1, .inl ⟨rfl, h2⟩, h3⟩
  | true =>
    obtain ⟨a, vs, h1, h2, h3, h4⟩ := h.tup e
    exact ⟨a, vs, h1, .inr ⟨rfl, Same.tupAt s h2, h4⟩, h3⟩
theorem call_List : CallR X (.type "list") (Cal X P.list) := by
  intro pins s σ H xs us Q I rx hq
  obtain ⟨hl, F, T, rs, out, gs, hr, he, q⟩ := hq
  obtain ⟨x, rfl⟩ := len_one hl
  obtain ⟨r, rfl, h1⟩ := hr.one
  unfold P.list at he
  simp only at he
  split at he
  · rename_i b ds e
    cases he
    obtain ⟨a, vs, rfl, h2, h3⟩ := h1.seq gs.sub e
    refine call_list_of pins s σ H _ us Q I rx ⟨a, vs, rfl, ?_, fun l hl => end_list gs q h3 hl⟩
    rcases h2 with ⟨_, h2⟩ | ⟨_, h2, _⟩
    · exact .inl (SqL.of h2)
    · exact .inr h2.sqT
  · cases he
theorem call_Tuple : CallR X (.type "tuple") (Cal X P.tuple) := by
  intro pins s σ H xs us Q I rx hq
  obtain ⟨hl, F, T, rs, out, gs, hr, he, q⟩ := hq
  obtain ⟨x, rfl⟩ := len_one hl
  obtain ⟨r, rfl, h1⟩ := hr.one
  unfold P.tuple at he
  simp only at he
  split at he
  · rename_i b ds e
    cases he
    obtain ⟨a, vs, rfl, h2, h3⟩ := h1.seq gs.sub e
    refine call_tuple_of pins s σ H _ us Q I rx ⟨a, vs, rfl, ?_⟩
    rcases h2 with ⟨_, h2⟩ | ⟨_, h2, h4⟩
    · exact .inl ⟨SqL.of h2, fun l hl => end_tup gs q h3 hl⟩
    · exact .inr ⟨h2.sqT, end_flat gs q h4⟩
  · cases he
theorem call_TupK : CallR X (.type "tuple") (Cal X P.tupK) := by
  intro pins s σ H xs us Q I rx hq
  obtain ⟨hl, F, T, rs, out, gs, hr, he, q⟩ := hq
  obtain ⟨x, rfl⟩ := len_one hl
  obtain ⟨r, rfl, h1⟩ := hr.one
  unfold P.tupK at he
  simp only at he
  split at he
  · rename_i ds e
    cases he
    obtain ⟨a, vs, rfl, h2, h3⟩ := h1.lst gs.sub e
    obtain ⟨u, rfl, ru⟩ := rx.one
    cases ru
    obtain ⟨its, r', pl, hz⟩ := I.list (SqL.of h2)
    have hlen := r'.length
    refine PySem.call_tuple_list pl.isList (fun h' kp => ?_) (by simp only [List.size_toArray] <;> omega)
    have I1 : Inv X pins σ H { s with heap := h' } := I.kept (t' := s.toks) kp
    have I2 : Inv X pins σ (upd H h'.objs.size (.frz { cls := .type "tuple", data := .seq its.toArray } (.tup vs))) { s with heap := h'.push { cls := .type "tuple", data := .seq its.toArray } } :=
      I1.laid (t' := s.toks) (fun b o e => Heap.get?_push_of_some _ e) (Nat.le_refl _) (show ObjOk X.prog X.w _ _ _ (.frz _ (.tup vs)) from ⟨Heap.get?_push_size _ rfl, hz, its, r', IsTup.new _ _⟩)
    exact ⟨.ref h'.objs.size, _, I2, rfl, end_tupK gs q h3 (I1.hok.fresh (Nat.le_refl _)) rfl⟩
  · cases he
theorem intsOf_map : ∀ {ds : List D} {ns : List Int}, P.intsOf ds = some ns → ds = ns.map .int
  | [], _, h => by
    simp only [P.intsOf, Option.some.injEq] at h
    subst h
    rfl
  | .int i :: r, ns, h => by
    simp only [P.intsOf, Option.map_eq_some_iff] at h
    obtain ⟨a, h1, rfl⟩ := h
    rw [intsOf_map h1] <;> rfl
  | .none :: _, _, h => by simp [P.intsOf] at h
  | .bool _ :: _, _, h => by simp [P.intsOf] at h
  | .str _ :: _, _, h => by simp [P.intsOf] at h
  | .list _ :: _, _, h => by simp [P.intsOf] at h
  | .tuple _ :: _, _, h => by simp [P.intsOf] at h
  | .dict _ :: _, _, h => by simp [P.intsOf] at h
theorem blsOf_map : ∀ {ds : List D} {ns : List Bool}, P.blsOf ds = some ns → ds = ns.map .bool
  | [], _, h => by
    simp only [P.blsOf, Option.some.injEq] at h
    subst h
    rfl
  | .bool i :: r, ns, h => by
    simp only [P.blsOf, Option.map_eq_some_iff] at h
    obtain ⟨a, h1, rfl⟩ := h
    rw [blsOf_map h1] <;> rfl
  | .none :: _, _, h => by simp [P.blsOf] at h
  | .int _ :: _, _, h => by simp [P.blsOf] at h
  | .str _ :: _, _, h => by simp [P.blsOf] at h
  | .list _ :: _, _, h => by simp [P.blsOf] at h
  | .tuple _ :: _, _, h => by simp [P.blsOf] at h
  | .dict _ :: _, _, h => by simp [P.blsOf] at h
theorem reps_int {K : PySem.W.Frag} {w : World} {F : Hp} : ∀ {ns : List Int} {vs : List V}, RepDs K w F vs (ns.map .int) → vs = ns.map V.int
  | [], [], _ => rfl
  | [], _ :: _, h => by simp only [List.map_nil, RepDs] at h
  | _ :: _, [], h => by simp only [List.map_cons, RepDs] at h
  | n :: ns, v :: vs, h => by
    simp only [List.map_cons, RepDs, RepD] at h
    rw [h.1, reps_int h.2] <;> rfl
theorem reps_bl {K : PySem.W.Frag} {w : World} {F : Hp} : ∀ {ns : List Bool} {vs : List V}, RepDs K w F vs (ns.map .bool) → vs = ns.map V.bl
  | [], [], _ => rfl
  | [], _ :: _, h => by simp only [List.map_nil, RepDs] at h
  | _ :: _, [], h => by simp only [List.map_cons, RepDs] at h
  | n :: ns, v :: vs, h => by
    simp only [List.map_cons, RepDs, RepD] at h
    rw [h.1, reps_bl h.2] <;> rfl
theorem call_Sum (hc : X.calm = true) : CallR X (.builtin "sum") (Cal X P.sum) := by
  intro pins s σ H xs us Q I rx hq
  obtain ⟨hl, F, T, rs, out, gs, hr, he, q⟩ := hq
  obtain ⟨x, rfl⟩ := len_one hl
  obtain ⟨r, rfl, h1⟩ := hr.one
  unfold P.sum at he
  simp only at he
  split at he
  · rename_i ds e
    split at he
    · rename_i ns en
      cases he
      obtain ⟨a, vs, rfl, h2, h3⟩ := h1.lst gs.sub e
      rw [intsOf_map en] at h3
      rw [reps_int h3] at h2
      exact cr_sum hc pins s σ H _ us Q I rx ⟨a, ns, rfl, SqL.of h2, end_flat gs q rep_int⟩
    · cases he
  · cases he
theorem call_All (hc : X.calm = true) : CallR X (.builtin "all") (Cal X P.all) := by
  intro pins s σ H xs us Q I rx hq
  obtain ⟨hl, F, T, rs, out, gs, hr, he, q⟩ := hq
  obtain ⟨x, rfl⟩ := len_one hl
  obtain ⟨r, rfl, h1⟩ := hr.one
  unfold P.all at he
  simp only at he
  split at he
  · rename_i ds e
    split at he
    · rename_i ns en
      cases he
      obtain ⟨a, vs, rfl, h2, h3⟩ := h1.lst gs.sub e
      rw [blsOf_map en] at h3
      rw [reps_bl h3] at h2
      exact cr_all hc pins s σ H _ us Q I rx ⟨a, ns, rfl, SqL.of h2, end_flat gs q rep_bl⟩
    · cases he
  · cases he
theorem call_Any (hc : X.calm = true) : CallR X (.builtin "any") (Cal X P.any) := by
  intro pins s σ H xs us Q I rx hq
  obtain ⟨hl, F, T, rs, out, gs, hr, he, q⟩ := hq
  obtain ⟨x, rfl⟩ := len_one hl
  obtain ⟨r, rfl, h1⟩ := hr.one
  unfold P.any at he
  simp only at he
  split at he
  · rename_i ds e
    split at he
    · rename_i ns en
      cases he
      obtain ⟨a, vs, rfl, h2, h3⟩ := h1.lst gs.sub e
      rw [blsOf_map en] at h3
      rw [reps_bl h3] at h2
      exact cr_any hc pins s σ H _ us Q I rx ⟨a, ns, rfl, SqL.of h2, end_flat gs q rep_bl⟩
    · cases he
  · cases he

/-! ### sorted -/
def Stands (K : PySem.W.Frag) (w : World) (F : Hp) (u : Value) (d : D) : Prop := ∃ x, RelV x u ∧ RepD K w F x d
theorem each_of {K : PySem.W.Frag} {w : World} {F : Hp} : ∀ {ds : List D} {vs : List V} {us : List Value}, RepDs K w F vs ds → Vals vs us → PySem.W.EachIs (Stands K w F) us ds
  | [], [], _, _, .nil => .nil
  | [], _ :: _, _, h, _ => by simp only [RepDs] at h
  | _ :: _, [], _, h, _ => by simp only [RepDs] at h
  | d :: ds, v :: vs, _, h, .cons r1 r2 => by
    simp only [RepDs] at h
    exact .cons ⟨v, r1, h.1⟩ (each_of h.2 r2)
theorem of_each {K : PySem.W.Frag} {w : World} {F : Hp} : ∀ {us : List Value} {ds : List D}, PySem.W.EachIs (Stands K w F) us ds → ∃ vs, RepDs K w F vs ds ∧ Vals vs us
  | _, _, .nil => ⟨[], by simp only [RepDs], .nil⟩
  | _, _, .cons ⟨x, r, h⟩ t => by
    obtain ⟨vs, h1, h2⟩ := of_each t
    exact ⟨x :: vs, by simp only [RepDs]; exact ⟨h, h1⟩, .cons r h2⟩
theorem okSort_of {ds : List D} (h : P.okSort ds = true) : PySem.W.AllAlike (ds.map id) ∧ PySem.W.Sortable (ds.map id) ∧ ∀ d ∈ ds, d.depth ≤ 60 := by
  unfold P.okSort at h
  simp only [Bool.and_eq_true, Bool.or_eq_true, List.all_eq_true, decide_eq_true_eq] at h
  obtain ⟨⟨h1, h2⟩, h3⟩ := h
  rw [List.map_id]
  refine ⟨fun d hd e he => h1 d hd e he, ?_, h2⟩
  rcases h3 with h3 | h3
  · refine .inl fun d hd => ?_
    have := h3 d hd
    split at this
    · exact ⟨_, _, rfl⟩
    · cases this
  · refine .inr fun d hd => ?_
    have := h3 d hd
    refine ⟨fun e => ?_, fun xs e => ?_⟩
    · subst e
      cases this
    · subst e
      cases this
theorem call_Sorted (hr : Room k X.A) : CallR X (.builtin "sorted") (Cal X P.sorted) := by
  intro pins s σ H xs us Q I rx hq
  obtain ⟨hl, F, T, rs, out, gs, hrr, he, q⟩ := hq
  obtain ⟨x, rfl⟩ := len_one hl
  obtain ⟨r, rfl, h1⟩ := hrr.one
  unfold P.sorted at he
  simp only at he
  split at he
  · rename_i bb ds e
    split at he
    · rename_i hc
      cases he
      obtain ⟨u, rfl, ru⟩ := vals1 rx
      obtain ⟨o1, o2, o3⟩ := okSort_of hc.1
      have hun := hr.units
      cases bb with
      | false =>
        obtain ⟨a, vs, rfl, h2, h3⟩ := h1.lst gs.sub e
        cases ru
        obtain ⟨its, rv, pl, hz⟩ := I.list (SqL.of h2)
        refine PySem.W.sorted_data (enc := id) (bs := ds) (R := Stands X.K X.w F) pl.isList (each_of h3 rv) ((each_of h3 rv).mono fun u d ⟨x, r1, r2⟩ => (r2.mono gs.sub).reads I _ r1) o1 o2 (by rw [← big_eq]; exact hc.2) (fun b hb => by have := o3 b hb; show X.A.units + 2 + b.depth < cLine; omega) fun out hlen hout => ?_
        obtain ⟨ws, k1, k2⟩ := of_each hout
        obtain ⟨c, hcq⟩ := PyProof.Rows.sortedAll_at s.heap its out.toArray
        have hfr : H (s.heap.objs.size + 1) = none := I.hok.fresh (Nat.le_succ _)
        refine ⟨.ref (s.heap.objs.size + 1), upd H (s.heap.objs.size + 1) (.lst ws), I.laid (t' := s.toks) (fun b u e => PyProof.Rows.sortedAll_old e) (Nat.le_succ _) ?_, rfl, end_list gs q k1 hfr⟩
        refine ⟨?_, out, c, k2, hcq⟩
        rw [k1.length, List.length_mergeSort, ← big_eq]
        exact hc.2
      | true =>
        obtain ⟨a, vs, rfl, h2, h3, _⟩ := h1.tup e
        cases ru
        obtain ⟨its, rv, pl, hz⟩ := I.tuple (Same.tupAt gs.sub h2).sqT
        refine sorted_tup (enc := id) (bs := ds) (R := Stands X.K X.w F) (show s.heap.IsTuple a its.toArray from pl) (each_of h3 rv) ((each_of h3 rv).mono fun u d ⟨x, r1, r2⟩ => (r2.mono gs.sub).reads I _ r1) o1 o2 (by rw [← big_eq]; exact hc.2) (fun b hb => by have := o3 b hb; show X.A.units + 2 + b.depth < cLine; omega) fun l h2' out c gone old at2 hout => ?_
        obtain ⟨ws, k1, k2⟩ := of_each hout
        have hfr : H l = none := I.hok.gone gone
        refine ⟨.ref l, upd H l (.lst ws), I.laidN (t' := s.toks) old gone hfr ⟨?_, out, c, k2, at2⟩, rfl, end_list gs q k1 hfr⟩
        rw [k1.length, List.length_mergeSort, ← big_eq]
        exact hc.2
    · cases he
  · cases he

/-- the same object, told back -/
theorem vals_at : ∀ {xs : List V} {us : List Value} {i : Nat} {u : Value}, Vals xs us → us[i]? = some u → ∃ x, xs[i]? = some x ∧ RelV x u
  | _, _, _, _, .nil, e => by simp at e
  | _, _, 0, _, .cons r t, e => by
    simp at e
    exact ⟨_, rfl, e ▸ r⟩
  | _, _, i + 1, _, .cons r t, e => by
    obtain ⟨x, h1, h2⟩ := vals_at (i := i) t (by simpa using e)
    exact ⟨x, by simpa using h1, h2⟩
theorem foldl_mem (x : D) : ∀ (xs : List D), PySem.W.minD x xs ∈ x :: xs := by
  unfold PySem.W.minD
  intro xs
  induction xs generalizing x with
  | nil => exact List.mem_cons_self
  | cons y xs ih =>
    rw [List.foldl_cons]
    split
    · exact List.mem_cons_of_mem _ (ih y)
    · rcases List.mem_cons.mp (ih x) with h | h
      · rw [h]
        exact List.mem_cons_self
      · exact List.mem_cons_of_mem _ (List.mem_cons_of_mem _ h)
theorem depth_all : ∀ (xs : List D), (∀ x ∈ xs, x.depth ≤ 60) → PyData.depthAll xs ≤ 60
  | [], _ => by
    unfold PyData.depthAll
    omega
  | x :: xs, h => by
    have h1 := h x List.mem_cons_self
    have h2 := depth_all xs fun y hy => h y (List.mem_cons_of_mem _ hy)
    unfold PyData.depthAll
    omega
theorem call_Min (hr : Room k X.A) : CallR X (.builtin "min") (Cal X P.min) := by
  intro pins s σ H xs us Q I rx hq
  obtain ⟨hl, F, T, rs, out, gs, hrr, he, q⟩ := hq
  obtain ⟨x, rfl⟩ := len_one hl
  obtain ⟨r, rfl, h1⟩ := hrr.one
  unfold P.min at he
  simp only at he
  split at he
  · rename_i d ds e
    split at he
    · rename_i hc
      cases he
      obtain ⟨u, rfl, ru⟩ := vals1 rx
      unfold P.okMin at hc
      simp only [Bool.and_eq_true, List.all_eq_true, decide_eq_true_eq] at hc
      obtain ⟨⟨o1, o2⟩, o3⟩ := hc
      obtain ⟨a, vs, rfl, h2, h3⟩ := h1.lst gs.sub e
      cases ru
      obtain ⟨its, rv, pl, hz⟩ := I.list (SqL.of h2)
      obtain ⟨as, q1⟩ := RepDs.reads I (d :: ds) (h3.mono gs.sub) rv
      have hdp := depth_all (d :: ds) o2
      have hun := hr.un
      refine PySem.W.min_list_data (vs := its.toArray) (xs := ds) (x := d) hr.hd pl.isList (by simpa using q1) ⟨o1, fun y hy z => by have := o3 y hy; rw [z] at this; cases this⟩ (by omega) fun i v h' tk bs hv rd hk => ?_
      have hv2 : its[i]? = some v := by simpa using hv
      obtain ⟨xv, g1, g2⟩ := vals_at rv hv2
      obtain ⟨dd, g3, g4⟩ := h3.getV g1
      have rd2 : ∃ as, Reads h' v dd as := by
        obtain ⟨as, z⟩ := RepD.reads I dd (g4.mono gs.sub) g2
        exact ⟨as, PyProof.Rows.Reads.keeps hk z⟩
      obtain ⟨as2, rd2⟩ := rd2
      have hmem : dd ∈ d :: ds := List.mem_of_getElem? g3
      have : dd = PySem.W.minD d ds := PySem.W.alike_unique _ _ _ _ _ (o1 dd hmem _ (foldl_mem d ds)) rd2 rd
      subst this
      exact ⟨xv, H, I.kept (t' := tk) hk, g2, end_flat gs q g4⟩
    · cases he
  · cases he

/-! ### items, slices -/
theorem RepDs.atI {K : PySem.W.Frag} {w : World} {F : Hp} {ds : List D} {vs : List V} {i : Int} {d : D} (h : RepDs K w F vs ds) (e : L2.atI ds i = some d) : ∃ x, L2.atI vs i = some x ∧ RepD K w F x d := by
  unfold L2.atI at e ⊢
  rw [h.length]
  cases q : L2.ixN ds.length i with
  | none => rw [q] at e; cases e
  | some j =>
    rw [q] at e
    exact h.get e
theorem RMs.length {K : PySem.W.Frag} {w : World} {F H : Hp} : ∀ {ms : List M} {xs : List V} {A : List Addr}, RMs K w F H xs ms A → xs.length = ms.length
  | [], [], _, _ => rfl
  | [], _ :: _, _, h => by simp only [RMs] at h
  | _ :: _, [], _, h => by simp only [RMs] at h
  | m :: ms, x :: xs, _, h => by
    simp only [RMs] at h
    obtain ⟨A1, A2, h1, h2, rfl⟩ := h
    simp [RMs.length h2]
theorem RMs.get {K : PySem.W.Frag} {w : World} {F H : Hp} : ∀ {ms : List M} {xs : List V} {A : List Addr} {i : Nat} {m : M}, RMs K w F H xs ms A → ms[i]? = some m →
    ∃ x A1 A2 A3, xs[i]? = some x ∧ A = A1 ++ A2 ++ A3 ∧ RM K w F H x m A2 ∧
      (∀ (F' H' : Hp) (m' : M) (B : List Addr), Same F F' → (∀ a ∈ A1 ++ A3, H' a = H a) → RM K w F' H' x m' B → RMs K w F' H' xs (ms.set i m') (A1 ++ B ++ A3))
  | [], _, _, _, _, _, e => by simp at e
  | _ :: _, [], _, _, _, h, _ => by simp only [RMs] at h
  | m0 :: ms, x :: xs, A, 0, m, h, e => by
    simp only [RMs] at h
    simp at e
    subst e
    obtain ⟨A1, A2, h1, h2, rfl⟩ := h
    refine ⟨x, [], A1, A2, rfl, by simp, h1, fun F' H' m' B e1 k r => ?_⟩
    simp only [List.set_cons_zero, RMs]
    exact ⟨B, A2, r, RMs.keep e1 h2 (by simpa using k), by simp⟩
  | m0 :: ms, x :: xs, A, i + 1, m, h, e => by
    simp only [RMs] at h
    obtain ⟨B1, B2, g1, g2, rfl⟩ := h
    obtain ⟨u, A1, A2, A3, h1, h2, h3, h4⟩ := RMs.get (i := i) g2 (by simpa using e)
    subst h2
    refine ⟨u, B1 ++ A1, A2, A3, by simpa using h1, by simp, h3, fun F' H' m' B e1 k r => ?_⟩
    simp only [List.set_cons_succ, RMs]
    exact ⟨B1, A1 ++ B ++ A3, g1.keep e1 fun a ha => k a (by simp [ha]), h4 F' H' m' B e1 (fun a ha => k a (by simp only [List.append_assoc]; exact List.mem_append_right _ ha)) r, by simp⟩
theorem RR.nest {K : PySem.W.Frag} {w : World} {F H : Hp} {x : V} {r : Rv} {T : List Addr} {ms : List M} (h : RR K w F H x r T) (e : r.m = .l ms) : ∃ a vs B, x = .ref a ∧ H a = some (.lst vs) ∧ RMs K w F H vs ms B := by
  cases r with
  | o m =>
    simp only [Rv.m] at e
    subst e
    simp only [RR, RM] at h
    obtain ⟨a, vs, B, h1, h2, h3, _⟩ := h
    exact ⟨a, vs, B, h1, h2, h3⟩
  | b m =>
    simp only [Rv.m] at e
    subst e
    simp only [RR, RM] at h
    obtain ⟨_, _, a, vs, B, h1, h2, h3, _⟩ := h
    exact ⟨a, vs, B, h1, h2, h3⟩
theorem end_b {K : PySem.W.Frag} {w : World} {F H : Hp} {T B : List Addr} {m : M} {Q : VK} {x : V} (g : GS F H T) (e : PEnd K w F H T (.b m) Q) (r : RM K w F H x m B) : Q x H :=
  e x F H [] (gs_nil g.sub) ⟨Same.refl _, fun _ _ h _ => h, fun _ h => (by cases h), fun _ _ h => .inl h⟩ (Same.refl _) ⟨rfl, B, r⟩
theorem ix_Idx0 : IxR X (Bin X P.idx0) := by
  intro value slice pins s σ H x y v u Q I rx ry hq hs
  obtain ⟨F, T, rs, out, gs, hr, he, q⟩ := hq
  obtain ⟨a, b, T1, T2, rfl, rfl, h1, h2⟩ := hr.two
  unfold P.idx0 at he
  simp only at he
  split at he
  · rename_i i ei
    have ey := h2.int ei
    subst ey
    split at he
    · rename_i ms em
      split at he
      · rename_i m e
        cases he
        obtain ⟨l, vs, B, rfl, k1, k2⟩ := h1.nest em
        unfold L2.atI at e
        cases ej : L2.ixN ms.length i with
        | none => rw [ej] at e; cases e
        | some j =>
          rw [ej] at e
          obtain ⟨z, A1, A2, A3, g1, g2, g3, _⟩ := RMs.get k2 e
          refine ix_list value slice pins s σ H _ _ v u Q I rx ry ⟨l, vs, i, z, rfl, rfl, SqL.of k1, ?_, end_b gs q g3⟩ hs
          unfold L2.atI
          rw [k2.length, ej]
          exact g1
      · cases he
    · split at he
      · rename_i bb ds e
        split at he
        · rename_i d ed
          cases he
          obtain ⟨l, vs, rfl, k1, k2⟩ := h1.seq gs.sub e
          obtain ⟨z, e1, e2⟩ := k2.atI ed
          rcases k1 with ⟨_, k1⟩ | ⟨_, k1, _⟩
          · exact ix_list value slice pins s σ H _ _ v u Q I rx ry ⟨l, vs, i, z, rfl, rfl, SqL.of k1, e1, end_flat gs q e2⟩ hs
          · exact ix_tup value slice pins s σ H _ _ v u Q I rx ry ⟨l, vs, i, z, rfl, rfl, k1.sqT, e1, end_flat gs q e2⟩ hs
        · cases he
      · cases he
  · cases he
/-- the end of a subscript whose class has its own __getitem__ -/
theorem tail_dct {value slice : Expr} {prog : Program} {w : World} {A : Around} {E : Value → Shared → Prop} {s : Shared} {o i : Value} {Q : Value → Shared → Prop} (hT : s.TypeIs o "dict") (hs : subscripted slice false o i = operate [o, i] (getItem o i)) (h : wpAny (model prog w) A (getItem o i) Q E s) : wpAny (model prog w) A (subscriptTail value slice o i) Q E s := by
  have last : wpAny (model prog w) A (subscripted slice false o i) (fun r s3 => wpAny (model prog w) A (letTemporaryGo value o r >>= fun _ => pure r) Q E s3) E s := by
    rw [hs]
    exact wpAny_operating (wpAny_mono h (fun r s3 h3 => wpAny_bind (wpAny_letTemporaryGo (wpAny_pure h3))) fun _ _ z => z)
  unfold subscriptTail
  apply wpAny_bind
  rw [getitemInPython_of_ne hT.not_modules]
  refine wpAny_bind (wpAny_specialOf hT PySem.F.slot_dict_getitem.lookup ?_)
  first
    | exact wpAny_pure (wpAny_bind last)
    | exact wpAny_bind (wpAny_pure (wpAny_bind last))
    | exact wpAny_bind last
theorem RR.dct {K : PySem.W.Frag} {w : World} {F H : Hp} {x : V} {r : Rv} {T : List Addr} {kvs : List (D × D)} (h : RR K w F H x r T) (s : Same F H) (e : P.dct? r.m = some kvs) : RepD K w H x (.dict kvs) ∧ ∃ a ents, x = .ref a ∧ H a = some (dctO a ents) ∧ (kvs.map fun p => keyOf p.1).Nodup ∧ RepKs K w F ents.en kvs := by
  have go : ∀ {m : M} {A : List Addr}, RM K w F H x m A → P.dct? m = some kvs → RepD K w H x (.dict kvs) ∧ ∃ a ents, x = .ref a ∧ H a = some (dctO a ents) ∧ (kvs.map fun p => keyOf p.1).Nodup ∧ RepKs K w F ents.en kvs := fun {m A} h e => by
    cases m with
    | d y =>
      cases y with
      | dict es =>
        simp only [P.dct?, Option.some.injEq] at e
        subst e
        simp only [RM] at h
        have h0 := h.1
        simp only [RepD] at h
        obtain ⟨⟨a, ents, h1, h2, h3, h4⟩, _⟩ := h
        exact ⟨h0.mono s, a, ents, h1, s _ _ h2, h3, h4⟩
      | _ => simp [P.dct?] at e
    | m es =>
      simp only [P.dct?, Option.some.injEq] at e
      subst e
      simp only [RM] at h
      obtain ⟨a, ents, h1, h2, h3, h4, _⟩ := h
      refine ⟨?_, a, ents, h1, h2, h3, h4⟩
      simp only [RepD]
      exact ⟨a, ents, h1, h2, h3, h4.mono s⟩
    | _ => simp [P.dct?] at e
  cases r with
  | o m => exact go h e
  | b m =>
    obtain ⟨_, B, h⟩ := h
    exact go h e
theorem ix_Idx {kr : Nat} (hr : Room kr X.A) : IxR X (Bin X P.idx) := by
  intro value slice pins s σ H x y v u Q I rx ry hq hs
  obtain ⟨F, T, rs, out, gs, hrr, he, q⟩ := hq
  obtain ⟨a, b, T1, T2, rfl, rfl, h1, h2⟩ := hrr.two
  unfold P.idx at he
  simp only at he
  split at he
  · rename_i kvs ek
    split at he
    · rename_i k em
      split at he
      · rename_i hc
        split at he
        · rename_i d ed
          cases he
          obtain ⟨_, l, ents, rfl, k1, k2, k3⟩ := h1.dct gs.sub ek
          cases rx
          rcases kOk_cases hc with ⟨ok, kk, hk⟩ | ⟨ok, kk, hk⟩
          · obtain ⟨vs, t1, t2, t3, _⟩ := dct_tab I k1 k2 (k3.mono gs.sub) ok
            have hv := atom_val hk (h2.pure em)
            subst hv
            have hF : AtR X.K X.w F vs kvs := by
              obtain ⟨o, es, g1, g2, g3, g4, g5, g6⟩ := dct_at I k1
              obtain ⟨o', es', ep', f1, f2, f3, f4, f5, f6⟩ := t1
              rw [g1] at f1
              cases f1
              rw [g3] at f3
              cases f3
              obtain ⟨vs', q1, q2, q3⟩ := at_of (P := X.prog) g4 k3 ok
              have e0 : ∀ {es : List DictEntry} {a b : List (Key × Value)}, Pairs (mixKind X.prog X.w) es a → Pairs (mixKind X.prog X.w) es b → a = b := by
                intro es
                induction es with
                | nil => intro a b ha hb; cases ha; cases hb; rfl
                | cons e es ih =>
                  intro a b ha hb
                  cases ha with
                  | cons x1 x2 x3 => cases hb with
                    | cons y1 y2 y3 =>
                      rw [ih x3 y3]
                      congr 1
                      have := (mixKind X.prog X.w).inj _ _ _ x1 y1
                      exact Prod.ext this (x2.symm.trans y2)
              rw [e0 f5 q2]
              exact q3
            rcases hF.look hk with ⟨e1, e2⟩ | ⟨uu, d', x', e1, e2, e3, e4⟩
            · rw [ed] at e2
              cases e2
            · rw [ed] at e2
              cases e2
              refine tail_dct t1.typeIs hs (wpAny_getItem_of (kV_is ry) t1.mapOf e1 ?_)
              exact ⟨x', H, I.tok _, e3, end_flat gs q e4⟩
          · obtain ⟨xs, t1, t2, t3, _⟩ := dct_tabH I gs.sub k1 k2 k3 ok
            obtain ⟨b', rfl⟩ := tup_val hk (h2.pure em)
            have hn := nested_is I k ((h2.pure em).mono gs.sub) ry (tup_key hk).1
            cases ry
            rcases t2.look hk with ⟨e1, e2⟩ | ⟨pp, d', x', e1, e2, e3, e4⟩
            · rw [ed] at e2
              cases e2
            · rw [ed] at e2
              cases e2
              refine tail_dct t1.typeIs hs (wpAny_getItem_heap (knd := nestedKind X.prog X.w) (k := kk) (by show X.A.in1.units + 8 < cLine; rw [Around.in1_units]; have := hr.units; omega) ⟨hn, (tup_key hk).2.1⟩ t1 e1 ?_)
              exact ⟨x', H, I.tok _, e3, end_flat gs q e4⟩
        · cases he
      · cases he
    · cases he
  · exact ix_Idx0 value slice pins s σ H x y v u Q I rx ry ⟨F, _, [a, b], out, gs, hrr, he, q⟩ hs
theorem RepDs.slc {K : PySem.W.Frag} {w : World} {F : Hp} {ds : List D} {vs : List V} {lo hi : Option Int} (h : RepDs K w F vs ds) : RepDs K w F (cutV vs lo hi) (P.slc ds lo hi) := by
  unfold cutV P.slc
  rw [h.length]
  exact (h.drop _).take _
theorem sl_Slice : SlR X (fun x lo hi H Q => rP X.K X.w (fun rs => match rs with | [a] => P.slice lo hi a | _ => .bad) [x] H Q) := by
  intro pins s σ H x v vl vu lo hi sl Q I rx hs pl pu hq
  obtain ⟨F, T, rs, out, gs, hr, he, q⟩ := hq
  obtain ⟨r, rfl, h1⟩ := hr.one
  simp only at he
  unfold P.slice at he
  split at he
  · rename_i ds e
    cases he
    have h2 : ∃ a vs, x = .ref a ∧ SqL X.K F a vs ∧ RepDs X.K X.w F vs ds := by
      cases r with
      | o m =>
        simp only [Rv.m] at e
        subst e
        simp only [RR, RM] at h1
        obtain ⟨a, vs, g1, g2, g3, _⟩ := h1
        exact ⟨a, vs, g1, g2, g3⟩
      | b m =>
        simp only [Rv.m] at e
        subst e
        simp only [RR, RM] at h1
        obtain ⟨_, _, a, vs, g1, g2, g3, _⟩ := h1
        exact ⟨a, vs, g1, g2, g3⟩
    obtain ⟨a, vs, rfl, g2, g3⟩ := h2
    exact sl_list pins s σ H _ v vl vu lo hi sl Q I rx hs pl pu ⟨a, vs, rfl, gs.sub.seq g2, fun p hp => end_list gs q g3.slc hp⟩
  · split at he
    · rename_i ds e
      cases he
      obtain ⟨a, vs, rfl, k1, k2⟩ := h1.lst gs.sub e
      exact sl_list pins s σ H _ v vl vu lo hi sl Q I rx hs pl pu ⟨a, vs, rfl, SqL.of k1, fun p hp => end_list gs q k2.slc hp⟩
    · rename_i ds e
      cases he
      obtain ⟨a, vs, rfl, k1, k2, k3⟩ := h1.tup e
      refine sl_tupA pins s σ H _ v vl vu lo hi sl Q I rx hs pl pu ⟨a, vs, rfl, (Same.tupAt gs.sub k1).sqT, fun hw => ?_, fun _ p hp => end_tup gs q k2.slc hp⟩
      have e0 : P.slc ds lo hi = ds := by
        unfold P.slc
        rw [k2.length] at hw
        rw [hw.1, hw.2]
        simp
      rw [e0] at q
      exact end_flat gs q k3
    · cases he
end
end Oa

/-! Part 7: the small language, what it computes, and when a text is it. -/
namespace Oa
open PySem PySem.Spec PyProof.Rows L2

/-- primitives of one operand: built-ins that are called -/
inductive P1 where
  | len | int | abs | list | tuple | sorted | sum | all | any | min | tupK
/-- of two operands: operators, comparisons, a subscript -/
inductive P2 where
  | add | sub | mul | fdiv | mod | pow | band | shr
  | eq | ne | lt | le | gt | ge | isin | notin | isp | isnot
  | idx
def P1.f : P1 → Pf
  | .len => P.len | .int => P.int | .abs => P.abs | .list => P.list | .tuple => P.tuple | .sorted => P.sorted | .sum => P.sum | .all => P.all | .any => P.any | .min => P.min | .tupK => P.tupK
def P2.f : P2 → Pf
  | .add => P.add | .sub => P.sub | .mul => P.mul | .fdiv => P.fdiv | .mod => P.mod | .pow => P.pow | .band => P.band | .shr => P.shr
  | .eq => P.eq | .ne => P.ne | .lt => P.lt | .le => P.le | .gt => P.gt | .ge => P.ge | .isin => P.isin | .notin => P.notin | .isp => P.isp | .isnot => P.isnot
  | .idx => P.idx

/-- targets -/
inductive Tg where
  | n (i : Nat)
  | t (ts : List Tg)
mutual
inductive Ex where
  | int (i : Int) | bl (b : Bool) | non | str (s : Str)
  | var (i : Nat) | frz (i : Nat) | mov (i : Nat)
  | glb (x : Str)
  | p1 (p : P1) (a : Ex) | p2 (p : P2) (a b : Ex)
  | neg (a : Ex) | rev (a : Ex)
  | slL (a lo : Ex) | slH (a hi : Ex) | slB (a lo hi : Ex)
  | isi (a : Ex) (c : String) | isi2 (a : Ex) (c d : String)
  | tup (es : Exs) | lst (own : Bool) (es : Exs)
  | and (a b : Ex) | or (a b : Ex) | not (a : Ex) | ite (c a b : Ex)
  | cmp2 (p q : P2) (a b c : Ex)
  | call (f : Str) (es : Ars)
  | pop (i : Nat) | popAt (i : Nat) (a : Ex) | ix (i : Nat) (a : Ex) | cnt (t : Bool) (a b : Ex)
  | comp (own : Bool) (elt : Ex) (t : Tg) (it : Itx) (cd : Exs)
  | lrng1 (a : Ex) | dct
  | get (a b : Ex) | get3 (a b c : Ex) | dct1 (a b : Ex) | b2 (mx : Bool) (a b : Ex)
inductive Exs where
  | nil | cons (e : Ex) (es : Exs)
inductive Ars where
  | nil | r (e : Ex) (es : Ars) | w (i : Nat) (es : Ars)
inductive Itx where
  | ex (e : Ex) | rng1 (a : Ex) | rng2 (a b : Ex) | rngD (a b : Ex) | enu (a : Ex) | zip (a b : Ex) | vals (a : Ex) | items (a : Ex)
end

mutual
/-- nothing that stands is changed -/
def Ex.pu : Ex → Bool
  | .dct => true
  | .int _ | .bl _ | .non | .str _ | .var _ | .frz _ | .mov _ | .glb _ => true
  | .p1 _ a | .neg a | .rev a | .isi a _ | .isi2 a _ _ | .not a | .lrng1 a | .ix _ a => a.pu
  | .p2 _ a b | .cnt _ a b | .get a b | .dct1 a b | .b2 _ a b | .slL a b | .slH a b | .and a b | .or a b => a.pu && b.pu
  | .slB a b c | .get3 a b c | .ite a b c | .cmp2 _ _ a b c => a.pu && (b.pu && c.pu)
  | .tup es | .lst _ es => es.pu
  | .call _ es => es.pu
  | .pop _ | .popAt _ _ => false
  | .comp _ elt _ it cd => it.pu && (elt.pu && cd.pu)
def Exs.pu : Exs → Bool
  | .nil => true
  | .cons e es => e.pu && es.pu
def Ars.pu : Ars → Bool
  | .nil => true
  | .r e es => e.pu && es.pu
  | .w _ _ => false
def Itx.pu : Itx → Bool
  | .ex e | .rng1 e | .enu e | .vals e | .items e => e.pu
  | .rng2 a b | .rngD a b | .zip a b => a.pu && b.pu
end

/-- may stand as a test -/
def Ex.tst : Ex → Bool
  | .ite _ _ _ => false
  | .not a => a.tst
  | .and a b | .or a b => a.tst && b.tst
  | _ => true
def Exs.tst1 : Exs → Bool
  | .nil => true
  | .cons e .nil => e.tst
  | _ => false
def Itx.needT : Itx → Bool
  | .enu _ | .zip _ _ | .items _ => true
  | _ => false
def isTupE : Expr → Bool
  | .Tuple _ _ _ => true
  | _ => false
def Ars.none : Ars → Bool
  | .nil => true
  | _ => false
def Ars.len : Ars → Nat
  | .nil => 0
  | .r _ es => es.len + 1
  | .w _ es => es.len + 1

/-! ### targets, rows -/
mutual
def Tg.slots : Tg → List Nat
  | .n i => [i]
  | .t ts => Tg.slotss ts
def Tg.slotss : List Tg → List Nat
  | [] => []
  | a :: r => Tg.slots a ++ Tg.slotss r
end
mutual
def Tg.put : Tg → D → Sl → Option Sl
  | .n i, d, m => if i < m.length then some (m.set i (some (.d d))) else none
  | .t ts, .tuple ds, m => if ts.length = ds.length then Tg.puts ts ds m else none
  | .t _, _, _ => none
def Tg.puts : List Tg → List D → Sl → Option Sl
  | [], [], m => some m
  | a :: r, d :: ds, m => (Tg.put a d m).bind fun m' => Tg.puts r ds m'
  | _, _, _ => none
end
def ofOpt {α : Type} : Option α → Res α
  | some a => .ok a
  | none => .bad
/-- the slots forgotten -/
def clr (m : Sl) : List Nat → Sl
  | [] => m
  | i :: is => (clr m is).set i none
/-- a slot's pure content -/
def pureAt (m : Sl) (i : Nat) : Option M := match m[i]? with
  | some (some (.d x)) => some (.d x)
  | _ => none
/-- pure contents put back -/
def back (m0 : Sl) (m : Sl) : List Nat → Sl
  | [] => m
  | i :: is => (back m0 m is).set i (pureAt m0 i)
/-- what is handed on, frozen -/
def Rv.pure? : Rv → Option D
  | .o k => if k.fine = true then some k.data else none
  | .b (.d x) => some x
  | .b _ => none
def pures : List Rv → Option (List D)
  | [] => some []
  | r :: rs => r.pure?.bind fun d => (pures rs).map (d :: ·)
def look : M → Rv
  | .d x => .p x
  | k => .b k

/-! ### arguments of a def's call -/
inductive Arg where
  | r (x : Rv) | w (i : Nat)
abbrev CfT := Str → List M → Res (Rv × List M)
/-- what the callee is handed -/
def handM : Rv → M
  | .o (.s xs) => .s xs
  | .b (.s xs) => .s xs
  | x => .d x.data
def handOk : Rv → Bool
  | .o (.s _) => true
  | .b (.s _) => true
  | x => x.m.fine
def hand : List Arg → Sl → Option (List M × Sl)
  | [], m => some ([], m)
  | .r x :: r, m => if handOk x = true then (hand r m).map fun p => (handM x :: p.1, p.2) else none
  | .w i :: r, m => match m[i]? with
    | some (some k) => (hand r (m.set i none)).map fun p => (k :: p.1, p.2)
    | _ => none
def give : List Arg → List M → Sl → Option Sl
  | [], [], m => some m
  | .r _ :: r, _ :: ms, m => give r ms m
  | .w i :: r, k :: ms, m => give r ms (m.set i (some k))
  | _, _, _ => none
mutual
/-- no lists within -/
def flatD : D → Bool
  | .none | .bool _ | .int _ | .str _ => true
  | .tuple xs => flatDs xs
  | .list _ | .dict _ => false
def flatDs : List D → Bool
  | [] => true
  | x :: xs => flatD x && flatDs xs
end
def flatKs : List (D × D) → Bool
  | [] => true
  | (a, b) :: r => flatD a && flatD b && flatKs r
mutual
/-- nothing in it may be what was only looked at -/
def M.apart : M → Bool
  | .d x => flatD x
  | .v xs => flatDs xs
  | .l ms => M.aparts ms
  | .m kvs => flatKs kvs
  | .s _ => false
  | .t _ => false
  | .g _ _ => false
def M.aparts : List M → Bool
  | [] => true
  | y :: ys => M.apart y && M.aparts ys
end
def looks : List Arg → Bool
  | [] => false
  | .r (.b (.d _)) :: r => looks r
  | .r (.b (.s _)) :: r => looks r
  | .r (.b _) :: _ => true
  | _ :: r => looks r
def hasW : List Arg → Bool
  | [] => false
  | .w _ :: _ => true
  | .r _ :: r => hasW r
def callWith (cf : CfT) (f : Str) (as : List Arg) (m : Sl) : Res (Rv × Sl) := if (looks as && hasW as) = true then .bad else match hand as m with
  | none => .bad
  | some (ks, m1) => (cf f ks).bind fun (r, ks') => match give as ks' m1 with
    | none => .bad
    | some m2 => match r with
      | .b _ => .bad
      | .o k => if (looks as && !k.apart) = true then .bad else .ok (.o k, m2)

/-! ### the value of an expression -/
def tupF : Pf := fun rs => match pures rs with
  | some ds => if ds.length ≤ big then .ok (.p (.tuple ds)) else .bad
  | none => .bad
/-- an element as it is kept -/
def keepM (own : Bool) (r : Rv) : Option M := match r with
  | .o k => if k.fine = true then some (if own = true then k else .d k.data) else none
  | .b (.d x) => some (.d x)
  | .b _ => none
/-- a key that is a tuple -/
def tupKey0 (d : D) : Bool := match d with
  | .tuple xs => (match keyOf (.tuple xs) with
    | some k => decide (k.depth ≤ 8)
    | none => false)
  | .int _ | .str _ => true
  | _ => false
/-- {a: b} -/
def dct1F (fa fb : EvF) : EvF := fun m => (fa m).bind fun (q, m1) => (fb m1).bind fun (r, m2) => match q, r with
  | .o (.d kd), .o (.d d) => if tupKey0 kd = true then .ok (.o (.m [(kd, d)]), m2) else .bad
  | _, _ => .bad
/-- min, max of two ints -/
def P.b2 (mx : Bool) : Pf := P.ii fun i j => .ok (.int (if mx = true then (if j > i then j else i) else (if j < i then j else i)))
def lstV : Pf := fun rs => match pures rs with
  | some ds => if ds.length ≤ big then .ok (.o (.v ds)) else .bad
  | none => .bad
def keeps : List Rv → Option (List M)
  | [] => some []
  | r :: rs => (keepM true r).bind fun k => (keeps rs).map (k :: ·)
def lstL : Pf := fun rs => match keeps rs with
  | some ks => if ks.length ≤ big then .ok (.o (.l ks)) else .bad
  | none => .bad
def lstF (own : Bool) : Pf := if own = true then lstL else lstV
def tst (r : Rv) : Res Bool := ofOpt r.m.bl?
def slF (lo hi : Bool) : Pf
  | [a, b, c] => if lo && hi then (match b.m.int?, c.m.int? with
    | some i, some j => P.slice (some i) (some j) a
    | _, _ => .bad) else .bad
  | [a, b] => match b.m.int? with
    | some i => if lo && !hi then P.slice (some i) none a else if hi && !lo then P.slice none (some i) a else .bad
    | none => .bad
  | _ => .bad
def isiF (cs : List String) : Pf
  | [a] => P.isi cs a
  | _ => .bad
def rngList (a b : Int) : List D := (List.range (b - a).toNat).map fun i => .int (a + (i : Nat))
def lrngF : Pf
  | [a] => match a.m.int? with
    | some j => if -4611686018427387904 ≤ j ∧ j < 4611686018427387904 ∧ j.toNat ≤ big then .ok (.o (.v (rngList 0 j))) else .bad
    | none => .bad
  | _ => .bad

/-- list or tuple -/
def kdOf : D → Option (Bool × List D)
  | .list xs => some (false, xs)
  | .tuple xs => some (true, xs)
  | _ => none
/-- a source's items, frozen, or looked at -/
def srcF (pe : Bool) (r : Rv) : Res (Bool × List D) := match r with
  | .o k => if k.fine = true then ofOpt (kdOf k.data) else .bad
  | .b k => match k.items with
    | some p => if pe = true then .ok p else (match k with
      | .d _ => .ok p
      | _ => .bad)
    | none => .bad
def rng62 (a : Int) : Bool := decide (-4611686018427387904 ≤ a) && decide (a < 4611686018427387904)
def evSrc (g : List Rv → Res (List D)) (fs : EvsF) : Sl → Res (List D × Sl) := fun m => (fs m).bind fun (rs, m1) => (g rs).bind fun ds => .ok (ds, m1)
/-- a dict that is gone through -/
def dctF (pe : Bool) (r : Rv) : Option (List (D × D)) := match r with
  | .o k => if k.fine = true then (match k.data with
    | .dict kvs => some kvs
    | _ => none) else none
  | .b (.m kvs) => if pe = true then some kvs else none
  | _ => none
def gSeq (pe : Bool) : List Rv → Res (List D)
  | [r] => match dctF pe r with
    | some kvs => .ok (kvs.map (·.1))
    | none => (srcF pe r).bind fun p => .ok p.2
  | _ => .bad
def gVals (pe : Bool) : List Rv → Res (List D)
  | [r] => match dctF pe r with
    | some kvs => .ok (kvs.map (·.2))
    | none => .bad
  | _ => .bad
def gItems (pe : Bool) : List Rv → Res (List D)
  | [r] => match dctF pe r with
    | some kvs => .ok (kvs.map fun p => .tuple [p.1, p.2])
    | none => .bad
  | _ => .bad
def gRng1 : List Rv → Res (List D)
  | [r] => match r.m.int? with
    | some j => if rng62 j = true then .ok (rngList 0 j) else .bad
    | none => .bad
  | _ => .bad
def gRng2 : List Rv → Res (List D)
  | [r, q] => match r.m.int?, q.m.int? with
    | some i, some j => if (rng62 i && rng62 j) = true then .ok (rngList i j) else .bad
    | _, _ => .bad
  | _ => .bad
def gRngD : List Rv → Res (List D)
  | [r, q] => match r.m.int?, q.m.int? with
    | some i, some j => if (rng62 i && rng62 j) = true then .ok ((List.range (i - j).toNat).map fun n => .int (i - (n : Nat))) else .bad
    | _, _ => .bad
  | _ => .bad
def gEnu (pe : Bool) : List Rv → Res (List D)
  | [r] => (srcF pe r).bind fun p => .ok (p.2.zipIdx.map fun p => .tuple [.int (p.2 : Nat), p.1])
  | _ => .bad
def gZip (pe : Bool) : List Rv → Res (List D)
  | [r, q] => (srcF pe r).bind fun p1 => (srcF pe q).bind fun p2 => if p1.1 = p2.1 then .ok ((p1.2.zip p2.2).map fun p => .tuple [p.1, p.2]) else .bad
  | _ => .bad
/-- a comprehension's turns -/
def turns (own : Bool) (t : Tg) (cond : Sl → Res (Bool × Sl)) (elt : EvF) : List D → Sl → List M → Res (List M × Sl)
  | [], m, acc => .ok (acc, m)
  | d :: ds, m, acc => match t.put d (clr m t.slots) with
    | none => .bad
    | some m1 => match cond m1 with
      | .ok (true, m2) => (match elt m2 with
        | .ok (r, m3) => (match keepM own r with
          | some k => if acc.length < big then turns own t cond elt ds m3 (acc ++ [k]) else .bad
          | none => .bad)
        | _ => .bad)
      | .ok (false, m2) => turns own t cond elt ds m2 acc
      | _ => .bad
def listM (own : Bool) (acc : List M) : M := if own = true then .l acc else .v (M.datas acc)
def compF (own : Bool) (t : Tg) (cond : Sl → Res (Bool × Sl)) (elt : EvF) (src : Sl → Res (List D × Sl)) : EvF := fun m => (src m).bind fun (ds, m1) => (turns own t cond elt ds m1 []).bind fun (acc, m2) => .ok (.o (listM own acc), back m1 m2 t.slots)

section
variable (cf : CfT) (cs : Str → Option D)
/-- one operand, a primitive -/
abbrev ev1 (p : Pf) (fa : EvF) : EvF := evPrim p (evsCons true fa evsNil)
abbrev ev2 (p : Pf) (pb : Bool) (fa fb : EvF) : EvF := evPrim p (evsCons pb fa (evsCons true fb evsNil))
abbrev ev3 (p : Pf) (pb pc : Bool) (fa fb fc : EvF) : EvF := evPrim p (evsCons (pb && pc) fa (evsCons pc fb (evsCons true fc evsNil)))
def andF (fa fb : EvF) : EvF := fun m => (fa m).bind fun (r, m1) => match r.m.bl? with
  | some true => fb m1
  | some false => .ok (.p (.bool false), m1)
  | none => .bad
def orF (fa fb : EvF) : EvF := fun m => (fa m).bind fun (r, m1) => match r.m.bl? with
  | some false => fb m1
  | some true => .ok (.p (.bool true), m1)
  | none => .bad
def notF (fa : EvF) : EvF := fun m => (fa m).bind fun (r, m1) => match r.m.bl? with
  | some b => .ok (.p (.bool (!b)), m1)
  | none => .bad
def iteF' (fc fa fb : EvF) : EvF := fun m => (fc m).bind fun (r, m1) => match r.m.bl? with
  | some true => fa m1
  | some false => fb m1
  | none => .bad
/-- a < b < c, of ints -/
def cmpI (p : P2) (i j : Int) : Option Bool := match p with
  | .lt => some (decide (i < j))
  | .le => some (decide (i ≤ j))
  | .gt => some (decide (j < i))
  | .ge => some (decide (j ≤ i))
  | _ => none
def okB (b : Bool) : EvF := fun m => .ok (.p (.bool b), m)
def badF : EvF := fun _ => .bad
/-- an int, and then -/
def intB (fa : EvF) (g : Int → EvF) : EvF := fun m => (fa m).bind fun (r, m1) => match r.m.int? with
  | some i => g i m1
  | none => .bad
def cmpOk : P2 → Bool
  | .lt | .le | .gt | .ge => true
  | _ => false
def cmp2F (p q : P2) (fa fb fc : EvF) : EvF := intB fa fun i => intB fb fun j => match cmpI p i j with
  | some false => okB false
  | some true => intB fc fun k => (match cmpI q j k with
    | some b => okB b
    | none => badF)
  | none => badF
/-- an int, at once -/
def intF (fa : EvF) : EvF := fun m => (fa m).bind fun (r, m1) => match r.m.int? with
  | some i => .ok (.p (.int i), m1)
  | none => .bad
/-- of a kind, at once -/
def kdF (kd : Rv → Bool) (fa : EvF) : EvF := fun m => (fa m).bind fun (r, m1) => if kd r = true then .ok (r, m1) else .bad
/-- slot i is known -/
def atF (ok : M → Bool) (i : Nat) (f : EvF) : EvF := fun m => match m[i]? with
  | some (some k) => if ok k = true then f m else .bad
  | _ => .bad
def M.isV : M → Bool
  | .v _ => true
  | _ => false
def ixF (i : Nat) (j : Int) : EvF := fun m => match m[i]? with
  | some (some k) => (P.idx [.b k, .p (.int j)]).bind fun out => .ok (out, m)
  | _ => .bad
def popAtF (i : Nat) (j : Int) : EvF := fun m => match m[i]? with
  | some (some (.v xs)) => (match (if 0 ≤ j ∧ j < 4611686018427387904 then xs[j.toNat]? else none) with
    | some d => .ok (.p d, m.set i (some (.v (xs.eraseIdx j.toNat))))
    | none => .bad)
  | _ => .bad
mutual
def Ex.ev : Ex → EvF
  | .int i => fun m => .ok (.p (.int i), m)
  | .bl b => fun m => .ok (.p (.bool b), m)
  | .non => fun m => .ok (.p .none, m)
  | .str x => fun m => .ok (.p (.str x), m)
  | .var i => fun m => match m[i]? with
    | some (some k) => .ok (look k, m)
    | _ => .bad
  | .frz i => fun m => match m[i]? with
    | some (some k) => if k.fine = true then .ok (.p k.data, m.set i (some (.d k.data))) else .bad
    | _ => .bad
  | .mov i => fun m => match m[i]? with
    | some (some k) => .ok (.o k, m.set i none)
    | _ => .bad
  | .glb x => fun m => match cs x with
    | some d => .ok (.p d, m)
    | none => .bad
  | .p1 p a => ev1 p.f a.ev
  | .p2 p a b => ev2 p.f b.pu a.ev b.ev
  | .neg a => ev1 P.neg a.ev
  | .rev a => ev1 P.rev a.ev
  | .slL a lo => ev2 (slF true false) lo.pu a.ev lo.ev
  | .slH a hi => ev2 (slF false true) hi.pu a.ev hi.ev
  | .slB a lo hi => ev3 (slF true true) lo.pu hi.pu a.ev (intF lo.ev) hi.ev
  | .isi a c => ev1 (isiF [c]) a.ev
  | .isi2 a c d => ev1 (isiF [c, d]) a.ev
  | .tup es => evPrim tupF es.evs
  | .lst own es => evPrim (lstF own) es.evs
  | .and a b => andF a.ev b.ev
  | .or a b => orF a.ev b.ev
  | .not a => notF a.ev
  | .ite c a b => iteF' c.ev a.ev b.ev
  | .cmp2 p q a b c => cmp2F p q a.ev b.ev c.ev
  | .call f es => fun m => (es.eva m).bind fun (as, m1) => callWith cf f as m1
  | .pop i => fun m => match m[i]? with
    | some (some (.v xs)) => (match xs[xs.length - 1]? with
      | some d => .ok (.p d, m.set i (some (.v xs.dropLast)))
      | none => .bad)
    | _ => .bad
  | .cnt t a b => ev2 (P.cnt t) b.pu (kdF (P.isK t) a.ev) b.ev
  | .get a b => ev2 P.get b.pu (kdF P.isD a.ev) b.ev
  | .get3 a b c => ev3 P.get3 b.pu c.pu (kdF P.isD a.ev) b.ev c.ev
  | .ix i a => atF (fun _ => true) i (intB a.ev (ixF i))
  | .popAt i a => atF M.isV i (intB a.ev (popAtF i))
  | .comp own elt t it cd => compF own t (cd.evc) elt.ev (it.evi (elt.pu && cd.pu))
  | .lrng1 a => ev1 lrngF a.ev
  | .dct => fun m => .ok (.o (.m []), m)
  | .dct1 a b => dct1F a.ev b.ev
  | .b2 mx a b => ev2 (P.b2 mx) b.pu a.ev b.ev
def Exs.evs : Exs → EvsF
  | .nil => evsNil
  | .cons e es => evsCons es.pu e.ev es.evs
/-- a comprehension's test -/
def Exs.evc : Exs → Sl → Res (Bool × Sl)
  | .nil => fun m => .ok (true, m)
  | .cons e _ => fun m => (e.ev m).bind fun (r, m1) => match r.m.bl? with
    | some b => .ok (b, m1)
    | none => .bad
def Ars.eva : Ars → Sl → Res (List Arg × Sl)
  | .nil => fun m => .ok ([], m)
  | .r e es => fun m => (e.ev m).bind fun (r, m1) => (es.eva m1).bind fun (as, m2) => if (r.isB && !es.pu) = true then .bad else .ok (.r r :: as, m2)
  | .w i es => fun m => match m[i]? with
    | some (some _) => (es.eva m).bind fun (as, m2) => .ok (.w i :: as, m2)
    | _ => .bad
def Itx.evi : Itx → Bool → Sl → Res (List D × Sl)
  | .ex e, pe => evSrc (gSeq pe) (evsCons true e.ev evsNil)
  | .rng1 a, _ => evSrc (gRng1) (evsCons true a.ev evsNil)
  | .rng2 a b, _ => evSrc (gRng2) (evsCons b.pu a.ev (evsCons true b.ev evsNil))
  | .rngD a b, _ => evSrc (gRngD) (evsCons b.pu a.ev (evsCons true b.ev evsNil))
  | .enu a, pe => evSrc (gEnu pe) (evsCons true a.ev evsNil)
  | .zip a b, pe => evSrc (gZip pe) (evsCons b.pu a.ev (evsCons true b.ev evsNil))
  | .vals a, pe => evSrc (gVals pe) (evsCons true a.ev evsNil)
  | .items a, pe => evSrc (gItems pe) (evsCons true a.ev evsNil)
end
end

/-! ### which text it is -/
section
variable (N : List Str) (fs : List (Str × Nat))
def okE : Expr → Bool
  | .Starred .. | .Slice .. | .Set .. => false
  | _ => true
def noBase : Expr → Bool
  | .Call _ [] _ _ => false
  | _ => true
def isNm (sc : Scope) (i : Nat) (x : Str) : Bool := decide (N[i]? = some x) && (match sc.names.lookup x with
  | some .local => true
  | some .cell => true
  | some .free => true
  | _ => false) && (!(x == ("__debug__" : Str)) && !(x == ("__classdict__" : Str)))
def isGl (sc : Scope) (x : Str) : Bool := (match sc.names.lookup x with
  | some .globalImplicit => true
  | _ => false) && !(x == ("__debug__" : Str)) && !(x == ("__name__" : Str))
/-- may be stored -/
def isSt (fn : Bool) (sc : Scope) (i : Nat) (x : Str) : Bool := decide (N[i]? = some x) && (match sc.names.lookup x with
  | some .local => true
  | some .cell => fn
  | _ => false)
def P1.nm : P1 → Str × Bool
  | .len => ("len", true) | .int => ("int", false) | .abs => ("abs", true) | .list => ("list", false) | .tuple => ("tuple", false) | .sorted => ("sorted", true) | .sum => ("sum", true) | .all => ("all", true) | .any => ("any", true) | .min => ("min", true) | .tupK => ("tuple", false)
def isOp : P2 → Operator → Bool
  | .add, .Add | .sub, .Sub | .mul, .Mult | .fdiv, .FloorDiv | .mod, .Mod | .pow, .Pow | .band, .BitAnd | .shr, .RShift => true
  | _, _ => false
def isIx : P2 → Bool
  | .idx => true
  | _ => false
def isCmp : P2 → CmpOp → Bool
  | .eq, .Eq | .ne, .NotEq | .lt, .Lt | .le, .LtE | .gt, .Gt | .ge, .GtE | .isin, .In | .notin, .NotIn | .isp, .Is | .isnot, .IsNot => true
  | _, _ => false
/-- the comprehension's own names and their slots -/
def ownOf : Tg → Expr → List (Str × Nat)
  | .n i, .Name x _ => [(x, i)]
  | .t [.n i], .Tuple [.Name x _] _ _ => [(x, i)]
  | .t [.n i, .n j], .Tuple [.Name x _, .Name y _] _ _ => [(x, i), (y, j)]
  | .t [.n i, .n j, .n k], .Tuple [.Name x _, .Name y _, .Name z _] _ _ => [(x, i), (y, j), (z, k)]
  | _, _ => []
mutual
def Tg.chk (fn : Bool) (sc : Scope) : Tg → Expr → Bool
  | .n i, .Name x _ => isSt N fn sc i x
  | .t ts, .Tuple es _ _ => Tg.chks fn sc ts es
  | _, _ => false
def Tg.chks (fn : Bool) (sc : Scope) : List Tg → List Expr → Bool
  | [], [] => true
  | a :: r, e :: es => Tg.chk fn sc a e && Tg.chks fn sc r es
  | _, _ => false
end
mutual
def Ex.chk (sc : Scope) : Ex → Expr → Bool
  | .int i, e0 => match e0 with
    | .Constant (.int j) _ _ => decide (i = j)
    | _ => false
  | .bl i, e0 => match e0 with
    | .Constant (.bool j) _ _ => i == j
    | _ => false
  | .non, e0 => match e0 with
    | .Constant .none _ _ => true
    | _ => false
  | .str x, e0 => match e0 with
    | .Constant (.str y) _ _ => decide (x = y)
    | _ => false
  | .var i, e0 => match e0 with
    | .Name x _ => isNm N sc i x
    | _ => false
  | .frz i, e0 => match e0 with
    | .Name x _ => isNm N sc i x
    | _ => false
  | .mov i, e0 => match e0 with
    | .Name x _ => isNm N sc i x
    | _ => false
  | .glb x, e0 => match e0 with
    | .Name y _ => decide (x = y) && isGl sc x
    | _ => false
  | .p1 p a, e0 => match e0 with
    | .Call (.Name f _) [e] [] _ => decide (f = p.nm.1) && isGl sc f && Ex.chk sc a e
    | _ => false
  | .p2 p a b, e0 => match e0 with
    | .BinOp x o y _ => isOp p o && Ex.chk sc a x && Ex.chk sc b y
    | .Compare x [o] [y] _ => isCmp p o && Ex.chk sc a x && Ex.chk sc b y
    | .Subscript x y _ => isIx p && (Ex.chk sc a x && Ex.chk sc b y)
    | _ => false
  | .dct, e0 => match e0 with
    | .Dict [] [] _ => true
    | _ => false
  | .dct1 a b, e0 => match e0 with
    | .Dict [some x] [y] _ => Ex.chk sc a x && Ex.chk sc b y
    | _ => false
  | .b2 mx a b, e0 => match e0 with
    | .Call (.Name f _) [x, y] [] _ => decide (f = if mx = true then "max" else "min") && isGl sc f && okE x && okE y && Ex.chk sc a x && Ex.chk sc b y
    | _ => false
  | .cnt t a b, e0 => match e0 with
    | .Call (.Attribute x f ap) [y] [] cp => decide (f = "count") && ap.endLine == cp.line && noBase x && okE y && Ex.chk sc a x && Ex.chk sc b y
    | _ => false
  | .get a b, e0 => match e0 with
    | .Call (.Attribute x f ap) [y] [] cp => decide (f = "get") && ap.endLine == cp.line && noBase x && okE y && Ex.chk sc a x && Ex.chk sc b y
    | _ => false
  | .get3 a b c, e0 => match e0 with
    | .Call (.Attribute x f ap) [y, z] [] cp => decide (f = "get") && ap.endLine == cp.line && noBase x && okE y && okE z && Ex.chk sc a x && Ex.chk sc b y && Ex.chk sc c z
    | _ => false
  | .ix i a, e0 => match e0 with
    | .Subscript (.Name x _) y _ => isNm N sc i x && Ex.chk sc a y
    | _ => false
  | .neg a, e0 => match e0 with
    | .UnaryOp .USub x _ => Ex.chk sc a x
    | _ => false
  | .rev a, e0 => match e0 with
    | .Subscript x (.Slice none none (some (.UnaryOp .USub (.Constant (.int 1) _ _) _)) _) _ => Ex.chk sc a x
    | _ => false
  | .slL a lo, e0 => match e0 with
    | .Subscript x (.Slice (some y) none none _) _ => Ex.chk sc a x && Ex.chk sc lo y
    | _ => false
  | .slH a hi, e0 => match e0 with
    | .Subscript x (.Slice none (some y) none _) _ => Ex.chk sc a x && Ex.chk sc hi y
    | _ => false
  | .slB a lo hi, e0 => match e0 with
    | .Subscript x (.Slice (some y) (some z) none _) _ => Ex.chk sc a x && Ex.chk sc lo y && Ex.chk sc hi z
    | _ => false
  | .isi a c, e0 => match e0 with
    | .Call (.Name f _) [e, .Name g _] [] _ => decide (f = "isinstance") && isGl sc f && decide (g = Str.ofString c) && isGl sc g && P.tyKnown c && Ex.chk sc a e
    | _ => false
  | .isi2 a c d, e0 => match e0 with
    | .Call (.Name f _) [e, .Tuple [.Name g _, .Name h _] _ _] [] _ => decide (f = "isinstance") && isGl sc f && decide (g = Str.ofString c) && isGl sc g && P.tyKnown c && decide (h = Str.ofString d) && isGl sc h && P.tyKnown d && Ex.chk sc a e
    | _ => false
  | .tup es, e0 => match e0 with
    | .Tuple xs _ _ => Exs.chk sc es xs
    | _ => false
  | .lst _ es, e0 => match e0 with
    | .List xs _ => Exs.chk sc es xs
    | _ => false
  | .and a b, e0 => match e0 with
    | .BoolOp .And (x :: y :: r) pos => Ex.chk sc a x && (match r with
    | [] => Ex.chk sc b y
    | _ => Ex.chk sc b (.BoolOp .And (y :: r) pos))
    | _ => false
  | .or a b, e0 => match e0 with
    | .BoolOp .Or (x :: y :: r) pos => Ex.chk sc a x && (match r with
    | [] => Ex.chk sc b y
    | _ => Ex.chk sc b (.BoolOp .Or (y :: r) pos))
    | _ => false
  | .not a, e0 => match e0 with
    | .UnaryOp .Not x _ => Ex.chk sc a x
    | _ => false
  | .ite c a b, e0 => match e0 with
    | .IfExp z x y _ => c.tst && Ex.chk sc c z && Ex.chk sc a x && Ex.chk sc b y
    | _ => false
  | .cmp2 p q a b c, e0 => match e0 with
    | .Compare x [o, u] [y, z] _ => cmpOk p && cmpOk q && isCmp p o && isCmp q u && Ex.chk sc a x && Ex.chk sc b y && Ex.chk sc c z
    | _ => false
  | .call f es, e0 => match e0 with
    | .Call (.Name g _) (x :: xs) [] _ => decide (f = g) && isGl sc f && decide (fs.lookup f = some es.len) && decide (es.len < 100) && Ars.chk sc es (x :: xs)
    | .Call (.Name g _) [] [] _ => decide (f = g) && isGl sc f && decide (fs.lookup f = some 0) && es.none
    | _ => false
  | .pop i, e0 => match e0 with
    | .Call (.Attribute (.Name x _) a ap) [] [] cp => decide (a = "pop") && isNm N sc i x && ap.endLine == cp.line
    | _ => false
  | .popAt i b, e0 => match e0 with
    | .Call (.Attribute (.Name x _) a ap) [e] [] cp => decide (a = "pop") && isNm N sc i x && ap.endLine == cp.line && Ex.chk sc b e
    | _ => false
  | .comp own elt t it cd, e0 => match e0 with
    | .ListComp e [⟨tg, iter, ifs, 0⟩] scope _ => Itx.chk sc it iter && Tg.chk N true scope t tg && Ex.chk (relS scope sc) elt e && Exs.chk (relS scope sc) cd ifs && cd.tst1 && (!it.needT || isTupE tg) && blkC N sc scope (ownOf t tg) && decide ((ownOf t tg).map (·.2) = t.slots) && okE iter
    | _ => false
  | .lrng1 a, e0 => match e0 with
    | .Call (.Name f _) [.Call (.Name g _) [e] [] _] [] _ => decide (f = "list") && isGl sc f && decide (g = "range") && isGl sc g && Ex.chk sc a e
    | _ => false
def Exs.chk (sc : Scope) : Exs → List Expr → Bool
  | .nil, e0 => match e0 with
    | [] => true
    | _ => false
  | .cons e es, e0 => match e0 with
    | x :: xs => okE x && Ex.chk sc e x && Exs.chk sc es xs
    | _ => false
def Ars.chk (sc : Scope) : Ars → List Expr → Bool
  | .nil, e0 => match e0 with
    | [] => true
    | _ => false
  | .r e es, e0 => match e0 with
    | x :: xs => okE x && Ex.chk sc e x && Ars.chk sc es xs
    | _ => false
  | .w i es, e0 => match e0 with
    | .Name x _ :: xs => isNm N sc i x && Ars.chk sc es xs
    | _ => false
def Itx.chk (sc : Scope) : Itx → Expr → Bool
  | .vals a, e0 => match e0 with
    | .Call (.Attribute x f ap) [] [] cp => decide (f = "values") && ap.endLine == cp.line && noBase x && Ex.chk sc a x
    | _ => false
  | .items a, e0 => match e0 with
    | .Call (.Attribute x f ap) [] [] cp => decide (f = "items") && ap.endLine == cp.line && noBase x && Ex.chk sc a x
    | _ => false
  | .ex e, e0 => okE e0 && Ex.chk sc e e0
  | .rng1 a, e0 => match e0 with
    | .Call (.Name f _) [e] [] _ => decide (f = "range") && isGl sc f && okE e && Ex.chk sc a e
    | _ => false
  | .rng2 a b, e0 => match e0 with
    | .Call (.Name f _) [x, y] [] _ => decide (f = "range") && isGl sc f && okE x && okE y && Ex.chk sc a x && Ex.chk sc b y
    | _ => false
  | .rngD a b, e0 => match e0 with
    | .Call (.Name f _) [x, y, .UnaryOp .USub (.Constant (.int 1) _ _) _] [] _ => decide (f = "range") && isGl sc f && okE x && okE y && Ex.chk sc a x && Ex.chk sc b y
    | _ => false
  | .enu a, e0 => match e0 with
    | .Call (.Name f _) [x] [] _ => decide (f = "enumerate") && isGl sc f && okE x && Ex.chk sc a x
    | _ => false
  | .zip a b, e0 => match e0 with
    | .Call (.Name f _) [x, y] [] _ => decide (f = "zip") && isGl sc f && okE x && okE y && Ex.chk sc a x && Ex.chk sc b y
    | _ => false
end
end
end Oa

/-! Part 8: each construct's text does what the small language says: expressions. -/
namespace Oa
open PySem PySem.Spec PyProof.Rows L2

/-- a def's promise by its value: n parameters -/
def spF (K : PySem.W.Frag) (w : World) (mg : Str → Option Value) (n : Nat) (f : List M → Res (Rv × List M)) : Sp := fun vs H Q E => vs.length = n ∧ ∃ F ks A, RMs K w F H vs ks A ∧ GS F H A ∧ match f ks with
  | .ok (r, ks') => ∀ v F' H' A' T, RMs K w F' H' vs ks' A' → GS F' H' (A' ++ T) → Stp A F H (A' ++ T) F' H' → RR K w F' H' v r T → Q v H'
  | .er c x => ∀ cls d H', ErP mg A H c x cls d H' → E cls d H'
  | .bad => False
def bis : List Str := ["len", "int", "abs", "list", "tuple", "sorted", "sum", "all", "any", "range", "enumerate", "zip", "isinstance", "bool", "str", "dict", "min", "max", "repr"]
/-- an own error class without own __init__ -/
def ErC (K : PySem.W.Frag) (mg : Str → Option Value) (c : Str) : Prop := ∃ C, mg c = some (.ref C) ∧ PySem.W.excIn K C He.veBase "ValueError.__new__" = true ∧ PySem.W.keepIn K (.ref C) = true ∧ PySem.W.subIn K (.ref C) (.type "BaseException") = some true ∧ PySem.W.typeIn K (.ref C) = some (.type "type")
/-- whether an except clause takes an own error -/
def mat (c h : Str) : Bool := decide (c = h) || decide (h = "ArrowError")
/-- what holds where code runs -/
structure Ctx (X : Cx) (k : Nat) (fs : List (Str × Nat)) (cf : CfT) (cs : Str → Option D) (W : WX) : Prop where
  calm : X.calm = true
  room : Room k X.A
  nd : X.N.Nodup
  bi : ∀ x ∈ bis, X.mg x = none
  fn : ∀ f n, fs.lookup f = some n → n < 100 → ∃ (fa : Addr) (fd : FuncData) (ps : List Str), ps.length = n ∧ X.mg f = some (.ref fa) ∧ PySem.W.keepIn X.K (.ref fa) = true ∧ Binds X.K fd ps [] ∧ FnOk X.prog X.w X.K X.mg X.base (L2.CX X.prog X.w) k fa fd ps (spF X.K X.w X.mg n (cf f))
  cst : ∀ x d, cs x = some d → ∃ u v, X.mg x = some u ∧ RelV v u ∧ ∀ F, RepD X.K X.w F v d
  er : ∀ c, fs.lookup c = some 100 → ErC X.K X.mg c
  em : ∀ c h C Hd, fs.lookup c = some 100 → fs.lookup h = some 100 → X.mg c = some (.ref C) → X.mg h = some (.ref Hd) → PySem.W.exmOne X.K (.ref C) (.ref Hd) = some (mat c h)
  tk : Takes X W

section
variable {X : Cx} {k : Nat} {fs : List (Str × Nat)} {cf : CfT} {cs : Str → Option D} {W : WX}
abbrev SE (X : Cx) (W : WX) (pu : Bool) (e : Expr) (f : EvF) : Prop := PE X e (tE X.K X.w X.mg W pu f)
abbrev ST (X : Cx) (W : WX) (pu : Bool) (e : Expr) (f : EvF) : Prop := PT X e (tB (tE X.K X.w X.mg W pu f))
theorem pe_imp {e : Expr} {t t' : TE} (h : PE X e t) (i : ∀ σ H Q, t' σ H Q → t σ H Q) : PE X e t' := ⟨fun pins s σ H Q I q => h.run pins s σ H Q I (i σ H Q q)⟩
theorem pt_imp {e : Expr} {t t' : TT} (h : PT X e t) (i : ∀ σ H Q, t' σ H Q → t σ H Q) : PT X e t' := ⟨fun pins s σ H Q I q => h.run pins s σ H Q I (i σ H Q q)⟩
theorem pa_imp {e : List Expr} {t t' : TA} (h : PA X e t) (i : ∀ σ H Q, t' σ H Q → t σ H Q) : PA X e t' := ⟨fun p pins s σ H Q I q => h.run p pins s σ H Q I (i σ H Q q)⟩
theorem tE_mono {K : PySem.W.Frag} {w : World} {mg : Str → Option Value} {pu : Bool} {f : EvF} {σ : L2.St} {H : Hp} {Q Q' : VK} (h : tE K w mg W pu f σ H Q) (i : ∀ x H, Q x H → Q' x H) : tE K w mg W pu f σ H Q' := by
  obtain ⟨m, F, A, hR, hG, h⟩ := h
  refine ⟨m, F, A, hR, hG, ?_⟩
  cases e : f m with
  | ok p =>
    rw [e] at h
    exact fun x H' z => i _ _ (h x H' z)
  | er c x =>
    rw [e] at h
    exact h
  | bad =>
    rw [e] at h
    exact h
/-- a value that leans on nothing -/
theorem tE_flat {K : PySem.W.Frag} {w : World} {mg : Str → Option Value} {pu : Bool} {d : D} {v : V} {σ : L2.St} {H : Hp} {Q : VK} (hr : ∀ F, RepD K w F v d) (h : tE K w mg W pu (fun m => .ok (.p d, m)) σ H Q) : Q v H := by
  obtain ⟨m, F, A, hR, hG, h⟩ := h
  exact h v H ⟨F, A, [], hR, by simpa using hG, by simpa using Stp.refl, (show RM K w F H v (.d d) [] by simp only [RM]; exact ⟨hr F, trivial⟩), fun _ => Same.refl H⟩
theorem se_flat {pu : Bool} {e : Expr} {d : D} {v : V} (h : PE X e (tC v)) (hr : ∀ F, RepD X.K X.w F v d) : SE X W pu e (fun m => .ok (.p d, m)) := pe_imp h fun _ _ _ q => tE_flat hr q
theorem vis_of {sc : Scope} {i : Nat} {x : Str} (h : isNm X.N sc i x = true) : X.N[i]? = some x ∧ Vis sc x ∧ (x == ("__debug__" : Str)) = false ∧ (x == ("__classdict__" : Str)) = false := by
  unfold isNm at h
  simp only [Bool.and_eq_true, decide_eq_true_eq, Bool.not_eq_true'] at h
  refine ⟨h.1.1, ?_, h.2.1, h.2.2⟩
  have h2 := h.1.2
  unfold Vis
  split at h2
  · rename_i e; exact .inl e
  · rename_i e; exact .inr (.inl e)
  · rename_i e; exact .inr (.inr e)
  · cases h2
theorem gl_of {sc : Scope} {x : Str} (hs : X.env.scope = sc) (h : isGl sc x = true) : Gl X x ∧ (x == ("__debug__" : Str)) = false ∧ x ≠ "__name__" := by
  unfold isGl at h
  simp only [Bool.and_eq_true, Bool.not_eq_true'] at h
  refine ⟨?_, h.1.2, fun e => ?_⟩
  · have h2 := h.1.1
    show X.env.scope.names.lookup x = some .globalImplicit
    rw [hs]
    split at h2
    · assumption
    · cases h2
  · rw [e] at h
    simp at h
theorem se_var {sc : Scope} {pu : Bool} {i : Nat} {x : Str} {pos : Pos} (hs : X.env.scope = sc) (h : isNm X.N sc i x = true) : SE X W pu (.Name x pos) ((Ex.var i).ev cf cs) := by
  subst hs
  obtain ⟨h1, h2, h3, h4⟩ := vis_of h
  refine pe_imp (pe_var h1 h2 h3 h4) fun σ H Q q => ?_
  obtain ⟨m, F, A, hR, hG, q⟩ := q
  unfold Ex.ev at q
  cases e : m[i]? with
  | none => rw [e] at q; exact q.elim
  | some o => cases o with
    | none => rw [e] at q; exact q.elim
    | some kk =>
      rw [e] at q
      obtain ⟨u, A1, A2, A3, g1, g2, g3, _, _⟩ := hR.at e
      refine ⟨u, g1, q u H ⟨F, A, [], hR, by simpa using hG, by simpa using Stp.refl, ?_, fun _ => Same.refl H⟩⟩
      cases kk with
      | d y =>
        simp only [RM] at g3
        show RM X.K X.w F H u (.d y) []
        simp only [RM]
        exact ⟨g3.1, trivial⟩
      | v y => exact ⟨rfl, A2, g3⟩
      | l y => exact ⟨rfl, A2, g3⟩
      | m y => exact ⟨rfl, A2, g3⟩
      | s y => exact ⟨rfl, A2, g3⟩
      | t y => exact ⟨rfl, A2, g3⟩
      | g y z => exact ⟨rfl, A2, g3⟩
/-- dropping what is owned -/
theorem gs_drop {F H : Hp} {A1 A2 A3 : List Addr} (g : GS F H (A1 ++ A2 ++ A3)) : GS F H (A1 ++ A3) := by
  have p : (A1 ++ A2 ++ A3).Perm ((A1 ++ A3) ++ A2) := by
    rw [List.append_assoc, List.append_assoc]
    exact (List.perm_append_comm).append_left A1
  exact (g.perm p.symm).left
theorem stp_drop {F H : Hp} {A B : List Addr} (h : ∀ a ∈ B, a ∈ A) : Stp A F H B F H := Stp.refl.mem (fun _ h => h) fun a ha => .inr (h a ha)
theorem gs_frz {F H : Hp} {A1 A2 A3 : List Addr} (g : GS F H (A1 ++ A2 ++ A3)) : GS (frz F H A2) H (A1 ++ A3) := by
  have d := gs_drop g
  refine ⟨frz_below g.sub, d.nd, fun a ha => ?_, d.own⟩
  obtain ⟨o, ho, ow⟩ := d.own a ha
  refine frz_off (d.off a ha) (fun h2 => ?_) ho ow
  have nd := g.nd
  rw [List.append_assoc, List.nodup_append] at nd
  rcases List.mem_append.mp ha with h | h
  · exact nd.2.2 a h a (List.mem_append_left _ h2) rfl
  · exact (List.nodup_append.mp nd.2.1).2.2 a h2 a h rfl
theorem frz_new {F H : Hp} {A : List Addr} {a : Addr} {o : HO} (h : frz F H A a = some o) : F a = some o ∨ a ∈ A ∨ ∃ xs, tpOf o = some xs := by
  unfold frz at h
  cases q : F a with
  | some u =>
    rw [q] at h
    exact .inl h
  | none =>
    rw [q] at h
    simp only at h
    by_cases ha : a ∈ A
    · exact .inr (.inl ha)
    · rw [if_neg ha] at h
      cases hx : H a with
      | none => rw [hx] at h; cases h
      | some u =>
        rw [hx] at h
        simp only at h
        split at h
        · rename_i z
          cases h
          exact .inr (.inr (Option.isSome_iff_exists.mp z))
        · cases h
theorem stp_frz {F H : Hp} {A A2 B : List Addr} (h : ∀ a ∈ B, a ∈ A) (h2 : ∀ a ∈ A2, a ∈ A) : Stp A F H B (frz F H A2) H :=
  ⟨frz_sub, fun _ _ h _ => h, fun a ha => .inl (h a ha), fun a o q => by
    rcases frz_new q with z | z | z
    · exact .inl z
    · exact .inr (.inl (h2 a z))
    · exact .inr (.inr (.inr z))⟩
theorem set_same {α : Type} : ∀ {l : List α} {i : Nat} {x : α}, l[i]? = some x → l.set i x = l
  | [], _, _, h => by simp at h
  | a :: l, 0, x, h => by
    simp at h
    rw [List.set_cons_zero, h]
  | a :: l, i + 1, x, h => by
    rw [List.set_cons_succ, set_same (i := i) (by simpa using h)]
theorem se_frz {sc : Scope} {pu : Bool} {i : Nat} {x : Str} {pos : Pos} (hs : X.env.scope = sc) (h : isNm X.N sc i x = true) : SE X W pu (.Name x pos) ((Ex.frz i).ev cf cs) := by
  subst hs
  obtain ⟨h1, h2, h3, h4⟩ := vis_of h
  refine pe_imp (pe_var h1 h2 h3 h4) fun σ H Q q => ?_
  obtain ⟨m, F, A, hR, hG, q⟩ := q
  unfold Ex.ev at q
  cases e : m[i]? with
  | none => rw [e] at q; exact q.elim
  | some o => cases o with
    | none => rw [e] at q; exact q.elim
    | some kk =>
      rw [e] at q
      cases hf : kk.fine with
      | false =>
        simp only [hf, Bool.false_eq_true, if_false] at q
      | true =>
      simp only [hf, if_true] at q
      obtain ⟨u, A1, A2, A3, g1, g2, g3, g4, _⟩ := hR.at e
      subst g2
      have hr : RepD X.K X.w (frz F H A2) u kk.data := g3.frz hf hG.sub
      refine ⟨u, g1, q u H ⟨frz F H A2, A1 ++ [] ++ A3, [], ?_, by simpa using gs_frz hG, stp_frz (fun a ha => ?_) (fun a ha => ?_), ?_, fun _ => Same.refl H⟩⟩
      · have := g4 (frz F H A2) H u (.d kk.data) [] frz_sub (fun _ _ => rfl) (by simp only [RM]; exact ⟨hr, trivial⟩)
        rwa [set_same g1] at this
      · simp only [List.append_nil, List.mem_append] at ha ⊢
        rcases ha with h | h
        · exact .inl (.inl h)
        · exact .inr h
      · simp only [List.mem_append]
        exact .inl (.inr ha)
      · show RM X.K X.w _ H u (.d kk.data) []
        simp only [RM]
        exact ⟨hr, trivial⟩
theorem se_mov {sc : Scope} {pu : Bool} {i : Nat} {x : Str} {pos : Pos} (hs : X.env.scope = sc) (h : isNm X.N sc i x = true) : SE X W pu (.Name x pos) ((Ex.mov i).ev cf cs) := by
  subst hs
  obtain ⟨h1, h2, h3, h4⟩ := vis_of h
  refine pe_imp (pe_var h1 h2 h3 h4) fun σ H Q q => ?_
  obtain ⟨m, F, A, hR, hG, q⟩ := q
  unfold Ex.ev at q
  cases e : m[i]? with
  | none => rw [e] at q; exact q.elim
  | some o => cases o with
    | none => rw [e] at q; exact q.elim
    | some kk =>
      rw [e] at q
      obtain ⟨u, A1, A2, A3, g1, g2, g3, _, g5⟩ := hR.at e
      subst g2
      have p : ((A1 ++ A3) ++ A2).Perm (A1 ++ A2 ++ A3) := by
        rw [List.append_assoc, List.append_assoc]
        exact (List.perm_append_comm).append_left A1
      refine ⟨u, g1, q u H ⟨F, A1 ++ A3, A2, g5 F H (Same.refl F) fun _ _ => rfl, hG.perm p, stp_drop fun a ha => p.mem_iff.mp ha, g3, fun _ => Same.refl H⟩⟩
end
end Oa

/-! Part 9: primitives, tests, and, or, not. -/
namespace Oa
open PySem PySem.Spec PyProof.Rows L2
section
variable {X : Cx} {k : Nat} {fs : List (Str × Nat)} {cf : CfT} {cs : Str → Option D} {W : WX}
/-! ### a primitive's operands -/
section
variable {K : PySem.W.Frag} {w : World} {mg : Str → Option Value} {σ : L2.St} {H : Hp} {Q : VK}
theorem tE_1 {p : Pf} {pa : Bool} {fa : EvF} (hp : Calm p) (h : tE K w mg W pa (ev1 p fa) σ H Q) : tE K w mg W pa fa σ H fun x H1 => rP K w p [x] H1 Q := by
  have h1 : tAs K w mg W (pa && true) (evsCons true fa evsNil) σ H fun xs H1 => rP K w p xs H1 Q := by
    rw [Bool.and_true]
    exact tE_prim hp h
  exact tE_mono (tAs_cons h1) fun x H1 q => tAs_nil q
theorem tE_2 {p : Pf} {pa pb : Bool} {fa fb : EvF} (hp : Calm p) (h : tE K w mg W (pa && pb) (ev2 p pb fa fb) σ H Q) :
    tE K w mg W pa fa σ H fun x H1 => tE K w mg W pb fb σ H1 fun y H2 => rP K w p [x, y] H2 Q := by
  refine tE_mono (tAs_cons (tE_prim hp h)) fun x H1 q => ?_
  have h1 : tAs K w mg W (pb && true) (evsCons true fb evsNil) σ H1 fun xs H2 => rP K w p (x :: xs) H2 Q := by
    rw [Bool.and_true]
    exact q
  exact tE_mono (tAs_cons h1) fun y H2 q => tAs_nil q
theorem tE_3 {p : Pf} {pa pb pc : Bool} {fa fb fc : EvF} (hp : Calm p) (h : tE K w mg W (pa && (pb && pc)) (ev3 p pb pc fa fb fc) σ H Q) :
    tE K w mg W pa fa σ H fun x H1 => tE K w mg W pb fb σ H1 fun y H2 => tE K w mg W pc fc σ H2 fun z H3 => rP K w p [x, y, z] H3 Q := by
  refine tE_mono (tAs_cons (tE_prim hp h)) fun x H1 q => tE_mono (tAs_cons q) fun y H2 q => ?_
  have h1 : tAs K w mg W (pc && true) (evsCons true fc evsNil) σ H2 fun xs H3 => rP K w p (x :: y :: xs) H3 Q := by
    rw [Bool.and_true]
    exact q
  exact tE_mono (tAs_cons h1) fun z H3 q => tAs_nil q
end
/-! ### no primitive raises -/
theorem calm_ii {g : Int → Int → Res D} (h : ∀ i j c x, g i j ≠ .er c x) : Calm (P.ii g) := by
  intro rs c x e
  unfold P.ii at e
  split at e
  · split at e
    · rename_i i j _ _
      cases q : g i j with
      | ok d => rw [q] at e; cases e
      | er c' x' => exact h _ _ _ _ q
      | bad => rw [q] at e; cases e
    · cases e
  · cases e
theorem calm_dd {c g : D → D → Bool} : Calm (P.dd c g) := by
  intro rs c x e
  unfold P.dd at e
  split at e
  · split at e <;> cases e
  · cases e
theorem ne_ofOpt {α : Type} {o : Option α} {c : Str} {x : Option Int} : ofOpt o ≠ .er c x := by
  cases o <;> intro e <;> cases e
theorem calm1 : ∀ p : P1, Calm p.f := by
  intro p rs c x e
  cases p <;> simp only [P1.f] at e
  · unfold P.len at e; (repeat' split at e) <;> cases e
  · unfold P.int at e; (repeat' split at e) <;> cases e
  · unfold P.abs at e; (repeat' split at e) <;> cases e
  · unfold P.list at e; (repeat' split at e) <;> cases e
  · unfold P.tuple at e; (repeat' split at e) <;> cases e
  · unfold P.sorted at e; (repeat' split at e) <;> cases e
  · unfold P.sum at e; (repeat' split at e) <;> cases e
  · unfold P.all at e; (repeat' split at e) <;> cases e
  · unfold P.any at e; (repeat' split at e) <;> cases e
  · unfold P.min at e; (repeat' split at e) <;> cases e
  · unfold P.tupK at e; (repeat' split at e) <;> cases e
theorem calm2 : ∀ p : P2, Calm p.f := by
  intro p
  cases p <;> simp only [P2.f]
  · intro rs c x e; unfold P.add at e; (repeat' split at e) <;> cases e
  · exact calm_ii fun _ _ _ _ e => by cases e
  · intro rs c x e; unfold P.mul at e; (repeat' split at e) <;> cases e
  · exact calm_ii fun _ _ _ _ e => by split at e <;> cases e
  · exact calm_ii fun _ _ _ _ e => by split at e <;> cases e
  · exact calm_ii fun _ _ _ _ e => by split at e <;> cases e
  · exact calm_ii fun _ _ _ _ e => by cases e
  · exact calm_ii fun _ _ _ _ e => by split at e <;> cases e
  · exact calm_dd
  · exact calm_dd
  · exact calm_dd
  · exact calm_dd
  · exact calm_dd
  · exact calm_dd
  · exact calm_dd
  · exact calm_dd
  · intro rs c x e; unfold P.isp at e; (repeat' split at e) <;> cases e
  · intro rs c x e; unfold P.isnot at e; (repeat' split at e) <;> cases e
  · intro rs c x e; unfold P.idx P.idx0 at e; (repeat' split at e) <;> cases e
theorem calm_cnt {t : Bool} : Calm (P.cnt t) := by intro rs c x e; unfold P.cnt at e; (repeat' split at e) <;> cases e
theorem calm_neg : Calm P.neg := by intro rs c x e; unfold P.neg at e; (repeat' split at e) <;> cases e
theorem calm_rev : Calm P.rev := by intro rs c x e; unfold P.rev at e; (repeat' split at e) <;> cases e
theorem calm_slice {lo hi : Option Int} {a : Rv} {c : Str} {x : Option Int} : P.slice lo hi a ≠ .er c x := by intro e; unfold P.slice at e; (repeat' split at e) <;> cases e
theorem calm_sl {lo hi : Bool} : Calm (slF lo hi) := by
  intro rs c x e
  unfold slF at e
  repeat' split at e
  all_goals first | exact calm_slice e | cases e
theorem calm_isi {l : List String} : Calm (isiF l) := by intro rs c x e; unfold isiF P.isi at e; (repeat' split at e) <;> cases e
theorem calm_lrng : Calm lrngF := by intro rs c x e; unfold lrngF at e; (repeat' split at e) <;> cases e
theorem calm_tup : Calm tupF := by intro rs c x e; unfold tupF at e; (repeat' split at e) <;> cases e
theorem calm_lst {own : Bool} : Calm (lstF own) := by
  intro rs c x e
  cases own with
  | false =>
    have e : lstV rs = .er c x := e
    unfold lstV at e
    (repeat' split at e) <;> cases e
  | true =>
    have e : lstL rs = .er c x := e
    unfold lstL at e
    (repeat' split at e) <;> cases e

/-! ### plain texts -/
theorem chk_ok {N : List Str} {fs : List (Str × Nat)} {sc : Scope} {a : Ex} {e : Expr} (h : Ex.chk N fs sc a e = true) : okE e = true := by
  have no : ∀ b : Ex, (∀ v p, Ex.chk N fs sc b (.Starred v p) = false) ∧ (∀ l u s p, Ex.chk N fs sc b (.Slice l u s p) = false) ∧ (∀ l n p, Ex.chk N fs sc b (.Set l n p) = false) := fun b => by
    cases b <;> refine ⟨fun _ _ => rfl, fun _ _ _ _ => rfl, fun _ _ _ => rfl⟩
  cases e with
  | Starred v p => rw [(no a).1] at h; cases h
  | Slice l u s p => rw [(no a).2.1] at h; cases h
  | Set l n p => rw [(no a).2.2] at h; cases h
  | _ => rfl
theorem star_ok {e : Expr} {es : List Expr} {env : Env} (h : okE e = true) : starEach (e :: es) env = (false, eval e env) :: starEach es env := by
  cases e <;> first | rfl | cases h
theorem plain_ix {e : Expr} (h : okE e = true) : PlainIx e := by
  intro o i
  cases e <;> first | rfl | cases h
theorem no_marks {e : Expr} {op : CmpOp} (h : okE e = true) : behindInMarks op e = false := by
  cases e <;> first | rfl | cases h
theorem no_fold {e : Expr} {env : Env} (h : okE e = true) : ∀ x, foldedSetIterable e env x = pure x := by
  intro x
  cases e <;> first | rfl | cases h

/-! ### calls of built-ins with one operand -/
theorem mem_bis {x : Str} (C : Ctx X k fs cf cs W) (h : x ∈ bis) : X.mg x = none := C.bi x h
theorem tcb_one {r : List V → Hp → VK → Prop} {ta : TE} {σ : L2.St} {H : Hp} {Q : VK} (h : ta σ H fun x H1 => r [x] H1 Q) : tCB r (tCons ta tNil) σ H Q := h
theorem se_b1 {p : Pf} {id : String} {f : Str} {e : Expr} {pa : Bool} {fa : EvF} {pn pos : Pos} {sc : Scope} (hs : X.env.scope = sc) (hp : Calm p) (hc : CallR X (.builtin id) (Cal X p)) (hg : isGl sc f = true) (hm : X.mg f = none) (hv : bootBuiltins f = some (.builtin id))
    (ok : okE e = true) (ha : SE X W pa e fa) : SE X W pa (.Call (.Name f pn) [e] [] pos) (ev1 p fa) := by
  obtain ⟨g1, g2, g3⟩ := gl_of hs hg
  refine pe_imp (pe_callB hc g1 hm hv (pa_cons ha pa_nil (star_ok ok)) g3 g2 (star_ok ok) rfl) fun σ H Q q => ?_
  exact tcb_one (tE_mono (tE_1 hp q) fun x H1 q => ⟨rfl, q⟩)
theorem se_t1 {p : Pf} {T : String} {f : Str} {e : Expr} {pa : Bool} {fa : EvF} {pn pos : Pos} {sc : Scope} (hs : X.env.scope = sc) (hp : Calm p) (hc : CallR X (.type T) (Cal X p)) (hg : isGl sc f = true) (hm : X.mg f = none) (hv : bootBuiltins f = some (.type T))
    (ok : okE e = true) (ha : SE X W pa e fa) : SE X W pa (.Call (.Name f pn) [e] [] pos) (ev1 p fa) := by
  obtain ⟨g1, g2, g3⟩ := gl_of hs hg
  refine pe_imp (pe_callTy hc g1 hm hv (pa_cons ha pa_nil (star_ok ok)) g3 g2 (star_ok ok) rfl) fun σ H Q q => ?_
  exact tcb_one (tE_mono (tE_1 hp q) fun x H1 q => ⟨rfl, q⟩)
theorem se_p1 (C : Ctx X k fs cf cs W) {p : P1} {e : Expr} {pa : Bool} {fa : EvF} {pn pos : Pos} {f : Str} {sc : Scope} (hs : X.env.scope = sc) (hf : f = p.nm.1) (hg : isGl sc f = true) (ok : okE e = true) (ha : SE X W pa e fa) :
    SE X W pa (.Call (.Name f pn) [e] [] pos) (ev1 p.f fa) := by
  subst hf
  cases p with
  | len => exact se_b1 hs (calm1 .len) call_Len hg (C.bi _ (by decide)) (by decide +kernel) ok ha
  | int => exact se_t1 hs (calm1 .int) call_Int hg (C.bi _ (by decide)) (by decide +kernel) ok ha
  | abs => exact se_b1 hs (calm1 .abs) call_Abs hg (C.bi _ (by decide)) (by decide +kernel) ok ha
  | list => exact se_t1 hs (calm1 .list) call_List hg (C.bi _ (by decide)) (by decide +kernel) ok ha
  | tuple => exact se_t1 hs (calm1 .tuple) call_Tuple hg (C.bi _ (by decide)) (by decide +kernel) ok ha
  | sorted => exact se_b1 hs (calm1 .sorted) (call_Sorted C.room) hg (C.bi _ (by decide)) (by decide +kernel) ok ha
  | sum => exact se_b1 hs (calm1 .sum) (call_Sum C.calm) hg (C.bi _ (by decide)) (by decide +kernel) ok ha
  | all => exact se_b1 hs (calm1 .all) (call_All C.calm) hg (C.bi _ (by decide)) (by decide +kernel) ok ha
  | any => exact se_b1 hs (calm1 .any) (call_Any C.calm) hg (C.bi _ (by decide)) (by decide +kernel) ok ha
  | min => exact se_b1 hs (calm1 .min) (call_Min C.room) hg (C.bi _ (by decide)) (by decide +kernel) ok ha
  | tupK => exact se_t1 hs (calm1 .tupK) call_TupK hg (C.bi _ (by decide)) (by decide +kernel) ok ha

/-! ### operators, comparisons, items -/
theorem se_op {o : Operator} {p : Pf} {a b : Expr} {pa pb : Bool} {fa fb : EvF} {pos : Pos} (hp : Calm p) (ho : OpR X (binaryOp o) (Bin X p)) (ha : SE X W pa a fa) (hb : SE X W pb b fb) : SE X W (pa && pb) (.BinOp a o b pos) (ev2 p pb fa fb) :=
  pe_imp (pe_op ho ha hb) fun σ H Q q => tE_2 hp q
theorem se_bin {p : P2} {o : Operator} {a b : Expr} {pa pb : Bool} {fa fb : EvF} {pos : Pos} (h : isOp p o = true) (ha : SE X W pa a fa) (hb : SE X W pb b fb) : SE X W (pa && pb) (.BinOp a o b pos) (ev2 p.f pb fa fb) := by
  match p, o, h with
  | .add, .Add, _ => exact se_op (calm2 .add) op_Add ha hb
  | .sub, .Sub, _ => exact se_op (calm2 .sub) op_Sub ha hb
  | .mul, .Mult, _ => exact se_op (calm2 .mul) op_Mul ha hb
  | .fdiv, .FloorDiv, _ => exact se_op (calm2 .fdiv) op_Div ha hb
  | .mod, .Mod, _ => exact se_op (calm2 .mod) op_Mod ha hb
  | .pow, .Pow, _ => exact se_op (calm2 .pow) op_Pow ha hb
  | .band, .BitAnd, _ => exact se_op (calm2 .band) op_And ha hb
  | .shr, .RShift, _ => exact se_op (calm2 .shr) op_Shr ha hb
theorem cmp_rule (hr : Room k X.A) {p : P2} {o : CmpOp} (h : isCmp p o = true) : OpR X (compareOp o) (Bin X p.f) := by
  match p, o, h with
  | .eq, .Eq, _ => exact op_Eq hr
  | .ne, .NotEq, _ => exact op_Ne hr
  | .lt, .Lt, _ => exact op_Lt hr
  | .le, .LtE, _ => exact op_Le hr
  | .gt, .Gt, _ => exact op_Gt hr
  | .ge, .GtE, _ => exact op_Ge hr
  | .isin, .In, _ => exact op_In hr
  | .notin, .NotIn, _ => exact op_NotIn hr
  | .isp, .Is, _ => exact op_Is
  | .isnot, .IsNot, _ => exact op_IsNot
theorem se_cmp (hr : Room k X.A) {p : P2} {o : CmpOp} {a b : Expr} {pa pb : Bool} {fa fb : EvF} {pos : Pos} (h : isCmp p o = true) (ok : okE b = true) (ha : SE X W pa a fa) (hb : SE X W pb b fb) : SE X W (pa && pb) (.Compare a [o] [b] pos) (ev2 p.f pb fa fb) :=
  pe_imp (pe_cmpR (cmp_rule hr h) ha hb (no_marks ok)) fun σ H Q q => tE_2 (calm2 p) q
theorem st_cmp (hr : Room k X.A) {p : P2} {o : CmpOp} {a b : Expr} {pa pb : Bool} {fa fb : EvF} {pos : Pos} (h : isCmp p o = true) (ok : okE b = true) (ha : SE X W pa a fa) (hb : SE X W pb b fb) : ST X W (pa && pb) (.Compare a [o] [b] pos) (ev2 p.f pb fa fb) :=
  pt_imp (pt_cmpR (cmp_rule hr h) ha hb (no_marks ok)) fun σ H Q q => tE_2 (calm2 p) q
theorem se_idx (hr : Room k X.A) {a b : Expr} {pa pb : Bool} {fa fb : EvF} {pos : Pos} (ok : okE b = true) (ha : SE X W pa a fa) (hb : SE X W pb b fb) : SE X W (pa && pb) (.Subscript a b pos) (ev2 (P2.f .idx) pb fa fb) :=
  pe_imp (pe_ix (ix_Idx hr) ha hb (plain_ix ok)) fun σ H Q q => tE_2 (calm2 .idx) q
theorem se_neg {a : Expr} {pa : Bool} {fa : EvF} {pos : Pos} (ha : SE X W pa a fa) : SE X W pa (.UnaryOp .USub a pos) (ev1 P.neg fa) :=
  pe_imp (pe_un un_Neg ha) fun σ H Q q => tE_1 calm_neg q
theorem se_rev {a : Expr} {pa : Bool} {fa : EvF} {kk : Nat} {p1 p2 p3 pos : Pos} (ha : SE X W pa a fa) : SE X W pa (.Subscript a (.Slice none none (some (.UnaryOp .USub (.Constant (.int 1) kk p1) p2)) p3) pos) (ev1 P.rev fa) := by
  refine pe_imp (pe_revB ha) fun σ H Q q => tE_mono (tE_1 calm_rev q) fun x H1 q => ?_
  obtain ⟨F, T, rs, out, gs, hr, he, q⟩ := q
  obtain ⟨r, rfl, h1⟩ := hr.one
  unfold P.rev at he
  simp only at he
  split at he
  · rename_i ds e
    cases he
    obtain ⟨l, vs, rfl, k1, k2⟩ := h1.lst gs.sub e
    exact .inl ⟨l, vs, rfl, SqL.of k1, fun p hp => end_list gs q k2.rev hp⟩
  · rename_i ds e
    cases he
    obtain ⟨l, vs, rfl, k1, k2, k3⟩ := h1.tup e
    exact .inr ⟨l, vs, rfl, (Same.tupAt gs.sub k1).sqT, fun p hp => end_tup gs q k2.rev hp⟩
  · cases he
/-! ### slices -/
theorem pend_less {K : PySem.W.Frag} {w : World} {F H : Hp} {T T1 : List Addr} {out : Rv} {Q : VK} (h : ∀ a ∈ T1, a ∈ T) (q : PEnd K w F H T out Q) : PEnd K w F H T1 out Q :=
  fun x F' H' T' g s e r => q x F' H' T' g (s.mem h fun a ha => .inl ha) e r
abbrev slR (X : Cx) : V → Option Int → Option Int → Hp → VK → Prop := fun x lo hi H Q => rP X.K X.w (fun rs => match rs with | [a] => P.slice lo hi a | _ => .bad) [x] H Q
theorem rr_one {K : PySem.W.Frag} {w : World} {F H : Hp} {x : V} {r : Rv} {T : List Addr} (h : RR K w F H x r T) : RRs K w F H [x] [r] T := by
  simp only [RRs]
  exact ⟨T, [], h, rfl, by simp⟩
theorem se_slL {a y : Expr} {pa pb : Bool} {fa fb : EvF} {p2 pos : Pos} (ha : SE X W pa a fa) (hb : SE X W pb y fb) : SE X W (pa && pb) (.Subscript a (.Slice (some y) none none p2) pos) (ev2 (slF true false) pb fa fb) := by
  refine pe_imp (pe_slice (r := slR X) sl_Slice ha (po_some hb) po_none) fun σ H Q q => tE_mono (tE_2 calm_sl q) fun x H1 q => tE_mono q fun z H2 q => ?_
  obtain ⟨F, T, rs, out, gs, hr, he, q⟩ := q
  obtain ⟨r1, r2, T1, T2, rfl, rfl, h1, h2⟩ := hr.two
  unfold slF at he
  simp only at he
  split at he
  · rename_i i ei
    simp only [Bool.not_false, Bool.and_self, if_true] at he
    exact ⟨i, h2.int ei, F, T1, [r1], out, gs.left, rr_one h1, he, pend_less (fun a ha => List.mem_append_left _ ha) q⟩
  · cases he
theorem se_slH {a y : Expr} {pa pb : Bool} {fa fb : EvF} {p2 pos : Pos} (ha : SE X W pa a fa) (hb : SE X W pb y fb) : SE X W (pa && pb) (.Subscript a (.Slice none (some y) none p2) pos) (ev2 (slF false true) pb fa fb) := by
  refine pe_imp (pe_slice (r := slR X) sl_Slice ha po_none (po_some hb)) fun σ H Q q => tE_mono (tE_2 calm_sl q) fun x H1 q => tE_mono q fun z H2 q => ?_
  obtain ⟨F, T, rs, out, gs, hr, he, q⟩ := q
  obtain ⟨r1, r2, T1, T2, rfl, rfl, h1, h2⟩ := hr.two
  unfold slF at he
  simp only at he
  split at he
  · rename_i i ei
    simp only [Bool.not_true, Bool.and_false, Bool.false_eq_true, if_false, Bool.not_false, Bool.and_self, if_true] at he
    exact ⟨i, h2.int ei, F, T1, [r1], out, gs.left, rr_one h1, he, pend_less (fun a ha => List.mem_append_left _ ha) q⟩
  · cases he
/-- an int is wanted at once -/
theorem ev_drop {K : PySem.W.Frag} {w : World} {pu : Bool} {F H : Hp} {A : List Addr} {σ : L2.St} {r : Rv} {m' : Sl} {x : V} {H' : Hp} {d : D} (e : r.m = .d d) (h : EvP K w pu F H A σ r m' x H') : EvP K w pu F H A σ (.p d) m' x H' := by
  obtain ⟨F', A', T, hR, g, s, q, p⟩ := h
  refine ⟨F', A', [], hR, by simpa using g.left, by simpa using s.mem (fun _ h => h) fun a ha => .inl (List.mem_append_left _ ha), ?_, p⟩
  show RM K w F' H' x (.d d) []
  simp only [RM]
  exact ⟨q.pure e, trivial⟩
theorem tE_int {K : PySem.W.Frag} {w : World} {mg : Str → Option Value} {pb : Bool} {fb : EvF} {σ : L2.St} {H : Hp} {Q : VK} (h : tE K w mg W pb (intF fb) σ H Q) : tE K w mg W pb fb σ H fun y H2 => ∃ i, y = .int i ∧ Q y H2 := by
  obtain ⟨m, F, A, hR, hG, h⟩ := h
  refine ⟨m, F, A, hR, hG, ?_⟩
  unfold intF at h
  cases e1 : fb m with
  | bad => rw [e1] at h; exact h.elim
  | er c x => rw [e1] at h; exact h
  | ok p =>
    obtain ⟨r, m1⟩ := p
    rw [e1] at h
    simp only [Res.bind_ok] at h
    cases ei : r.m.int? with
    | none => simp only [ei] at h
    | some i =>
      simp only [ei] at h
      intro x H' q
      have q' := ev_drop (M.int_eq ei) q
      refine ⟨i, ?_, h x H' q'⟩
      obtain ⟨F', A', T, _, _, _, q2, _⟩ := q
      exact q2.int ei
theorem se_slB {a y z : Expr} {pa pb pc : Bool} {fa fb fc : EvF} {p2 pos : Pos} (ha : SE X W pa a fa) (hb : SE X W pb y fb) (hc : SE X W pc z fc) : SE X W (pa && (pb && pc)) (.Subscript a (.Slice (some y) (some z) none p2) pos) (ev3 (slF true true) pb pc fa (intF fb) fc) := by
  refine pe_imp (pe_slice (r := slR X) sl_Slice ha (po_some hb) (po_some hc)) fun σ H Q q => tE_mono (tE_3 calm_sl q) fun x H1 q => tE_mono (tE_int q) fun z H2 q => ?_
  obtain ⟨i, rfl, q⟩ := q
  refine ⟨i, rfl, tE_mono q fun u H3 q => ?_⟩
  obtain ⟨F, T, rs, out, gs, hr, he, q⟩ := q
  match rs, hr with
  | r1 :: rs, hr =>
    simp only [RRs] at hr
    obtain ⟨T1, T2, h1, hr2, rfl⟩ := hr
    obtain ⟨r2, r3, T3, T4, rfl, rfl, h2, h3⟩ := RRs.two hr2
    unfold slF at he
    simp only [Bool.and_self, if_true] at he
    split at he
    · rename_i i' j ei ej
      have e2 := h2.int ei
      cases e2
      exact ⟨j, h3.int ej, F, T1, [r1], out, gs.left, rr_one h1, he, pend_less (fun a ha => List.mem_append_left _ ha) q⟩
    · cases he
  | [], hr => simp only [RRs] at hr
end
end Oa

/-! Part 10: and, or, not, chains, displays, isinstance. -/
namespace Oa
open PySem PySem.Spec PyProof.Rows L2
section
variable {X : Cx} {k : Nat} {fs : List (Str × Nat)} {cf : CfT} {cs : Str → Option D} {W : WX}
section
variable {K : PySem.W.Frag} {w : World} {mg : Str → Option Value} {σ : L2.St} {H : Hp} {Q : VK}
/-- one after another; what the first gave is dropped -/
theorem ev_then {pa pb : Bool} {F : Hp} {A : List Addr} {r2 : Rv} {m2 : Sl} {H1 H2 F1 : Hp} {A1 T1 : List Addr} {y : V} (g1 : GS F1 H1 (A1 ++ T1)) (s1 : Stp A F H (A1 ++ T1) F1 H1) (p1 : pa = true → Same H H1)
    (h : EvP K w pb F1 H1 A1 σ r2 m2 y H2) : EvP K w (pa && pb) F H A σ r2 m2 y H2 := by
  obtain ⟨F2, A2, T2, hR2, g2, s2, r2', p2⟩ := h
  refine ⟨F2, A2, T2, hR2, g2, (s1.mem (fun _ h => h) fun a ha => .inl (List.mem_append_left _ ha)).trans s2, r2', fun e => ?_⟩
  rw [Bool.and_eq_true] at e
  exact (p1 e.1).trans (p2 e.2)
/-- a test, then its way -/
theorem tE_test {pa pb : Bool} {fa : EvF} {gT gF : EvF} {f : EvF} (hf : ∀ m, f m = (fa m).bind fun (r, m1) => match r.m.bl? with
      | some true => gT m1
      | some false => gF m1
      | none => .bad) (h : tE K w mg W (pa && pb) f σ H Q) :
    tE K w mg W pa fa σ H fun x H1 => ∃ c, x = .bl c ∧ if c = true then tE K w mg W pb gT σ H1 Q else tE K w mg W pb gF σ H1 Q := by
  obtain ⟨m, F, A, hR, hG, h⟩ := h
  refine ⟨m, F, A, hR, hG, ?_⟩
  rw [hf] at h
  cases e1 : fa m with
  | bad => rw [e1] at h; exact h.elim
  | er c x => rw [e1] at h; exact h
  | ok p =>
    obtain ⟨r, m1⟩ := p
    rw [e1] at h
    simp only [Res.bind_ok] at h
    show ∀ x H', EvP K w pa F H A σ r m1 x H' → _
    rintro x H1 ⟨F1, A1, T1, hR1, g1, s1, r1, p1⟩
    have go : ∀ g : EvF, (match g m1 with
        | .ok (r, m') => ∀ x H', EvP K w (pa && pb) F H A σ r m' x H' → Q x H'
        | .er c x => ∀ cls d H', ErP mg A H c x cls d H' → W cls d σ H'
        | .bad => False) → tE K w mg W pb g σ H1 Q := fun g h => by
      refine ⟨m1, F1, A1, hR1, g1.left, ?_⟩
      cases e2 : g m1 with
      | bad => rw [e2] at h; exact h
      | er c y =>
        rw [e2] at h
        intro cls d H' q
        exact h cls d H' ((q.less (A := A1 ++ T1) fun a ha => List.mem_append_left _ ha).back s1)
      | ok p =>
        obtain ⟨r2, m2⟩ := p
        rw [e2] at h
        intro y H2 q
        exact h y H2 (ev_then g1 s1 p1 q)
    cases eb : r.m.bl? with
    | none => simp only [eb] at h
    | some c =>
      refine ⟨c, r1.bl eb, ?_⟩
      cases c with
      | true =>
        simp only [eb] at h
        rw [if_pos rfl]
        exact go gT h
      | false =>
        simp only [eb] at h
        rw [if_neg Bool.false_ne_true]
        exact go gF h
end
abbrev okF (d : D) : EvF := fun m => .ok (.p d, m)
abbrev SW (X : Cx) (W : WX) (pu : Bool) (e : Expr) (f : EvF) : Prop := PW X e (tB (tE X.K X.w X.mg W pu f))
theorem tE_ok {K : PySem.W.Frag} {w : World} {mg : Str → Option Value} {pb : Bool} {b : Bool} {σ : L2.St} {H : Hp} {Q : VK} (h : tE K w mg W pb (okF (.bool b)) σ H Q) : Q (.bl b) H := tE_flat (fun _ => rep_bl) h
theorem tE_pu {K : PySem.W.Frag} {w : World} {mg : Str → Option Value} {p q : Bool} {f : EvF} {σ : L2.St} {H : Hp} {Q : VK} (e : p = q) (h : tE K w mg W p f σ H Q) : tE K w mg W q f σ H Q := e ▸ h
theorem and_read {K : PySem.W.Frag} {w : World} {mg : Str → Option Value} {pa pb : Bool} {fa fb : EvF} {σ : L2.St} {H : Hp} {Q : VK} (h : tE K w mg W (pa && pb) (andF fa fb) σ H Q) :
    tE K w mg W pa fa σ H fun x H1 => ∃ c, x = .bl c ∧ if c = true then tE K w mg W pb fb σ H1 Q else Q (.bl false) H1 := by
  refine tE_mono (tE_test (gT := fb) (gF := okF (.bool false)) (fun m => ?_) h) fun x H1 ⟨c, e, q⟩ => ⟨c, e, ?_⟩
  · unfold andF
    cases fa m with
    | ok p =>
      obtain ⟨r, m1⟩ := p
      simp only [Res.bind_ok] <;> rcases r.m.bl? with _ | _ | _ <;> rfl
    | er c x => rfl
    | bad => rfl
  · cases c with
    | true => exact q
    | false => exact tE_ok (mg := mg) (W := W) (pb := pb) (by simpa using q)
theorem or_read {K : PySem.W.Frag} {w : World} {mg : Str → Option Value} {pa pb : Bool} {fa fb : EvF} {σ : L2.St} {H : Hp} {Q : VK} (h : tE K w mg W (pa && pb) (orF fa fb) σ H Q) :
    tE K w mg W pa fa σ H fun x H1 => ∃ c, x = .bl c ∧ if c = true then Q (.bl true) H1 else tE K w mg W pb fb σ H1 Q := by
  refine tE_mono (tE_test (gT := okF (.bool true)) (gF := fb) (fun m => ?_) h) fun x H1 ⟨c, e, q⟩ => ⟨c, e, ?_⟩
  · unfold orF
    cases fa m with
    | ok p =>
      obtain ⟨r, m1⟩ := p
      simp only [Res.bind_ok] <;> rcases r.m.bl? with _ | _ | _ <;> rfl
    | er c x => rfl
    | bad => rfl
  · cases c with
    | true => exact tE_ok (mg := mg) (W := W) (pb := pb) (by simpa using q)
    | false => exact q
theorem not_read {K : PySem.W.Frag} {w : World} {mg : Str → Option Value} {pa : Bool} {fa : EvF} {σ : L2.St} {H : Hp} {Q : VK} (h : tE K w mg W pa (notF fa) σ H Q) :
    tE K w mg W pa fa σ H fun x H1 => ∃ c, x = .bl c ∧ Q (.bl (!c)) H1 := by
  have h' : tE K w mg W (pa && true) (notF fa) σ H Q := tE_pu (Bool.and_true _).symm h
  refine tE_mono (tE_test (gT := okF (.bool false)) (gF := okF (.bool true)) (fun m => ?_) h') fun x H1 ⟨c, e, q⟩ => ⟨c, e, ?_⟩
  · unfold notF
    cases fa m with
    | ok p =>
      obtain ⟨r, m1⟩ := p
      simp only [Res.bind_ok] <;> rcases r.m.bl? with _ | _ | _ <;> rfl
    | er c x => rfl
    | bad => rfl
  · cases c with
    | true => exact tE_ok (mg := mg) (W := W) (pb := true) (by simpa using q)
    | false => exact tE_ok (mg := mg) (W := W) (pb := true) (by simpa using q)
theorem ite_read {K : PySem.W.Frag} {w : World} {mg : Str → Option Value} {pc pa pb : Bool} {fc fa fb : EvF} {σ : L2.St} {H : Hp} {Q : VK} (h : tE K w mg W (pc && (pa && pb)) (iteF' fc fa fb) σ H Q) :
    tE K w mg W pc fc σ H fun x H1 => ∃ c, x = .bl c ∧ if c = true then tE K w mg W pa fa σ H1 Q else tE K w mg W pb fb σ H1 Q := by
  have wk : ∀ {p q : Bool} {f : EvF} {σ : L2.St} {H : Hp} {Q : VK}, (p = true → q = true) → tE K w mg W p f σ H Q → tE K w mg W q f σ H Q := fun {p q f σ H Q} i h => by
    obtain ⟨m, F, A, hR, hG, h⟩ := h
    refine ⟨m, F, A, hR, hG, ?_⟩
    cases e : f m with
    | ok z =>
      rw [e] at h
      obtain ⟨r, m'⟩ := z
      intro x H' ⟨F', A', T, a1, a2, a3, a4, a5⟩
      exact h x H' ⟨F', A', T, a1, a2, a3, a4, fun e => a5 (i e)⟩
    | er c x => rw [e] at h; exact h
    | bad => rw [e] at h; exact h
  refine tE_mono (tE_test (gT := fa) (gF := fb) (fun m => ?_) h) fun x H1 ⟨c, e, q⟩ => ⟨c, e, ?_⟩
  · unfold iteF'
    cases fc m with
    | ok p =>
      obtain ⟨r, m1⟩ := p
      simp only [Res.bind_ok] <;> rcases r.m.bl? with _ | _ | _ <;> rfl
    | er c x => rfl
    | bad => rfl
  · cases c with
    | true => exact wk (fun e => (Bool.and_eq_true_iff.mp e).1) q
    | false => exact wk (fun e => (Bool.and_eq_true_iff.mp e).2) q
variable {a b c : Expr} {pa pb pc : Bool} {fa fb fc : EvF} {pos : Pos} {r : List Expr}
theorem se_and (ha : SE X W pa a fa) (hb : SE X W pb (.BoolOp .And (b :: r) pos) fb) : SE X W (pa && pb) (.BoolOp .And (a :: b :: r) pos) (andF fa fb) := pe_imp (pe_and ha hb) fun _ _ _ q => and_read q
theorem se_or (ha : SE X W pa a fa) (hb : SE X W pb (.BoolOp .Or (b :: r) pos) fb) : SE X W (pa && pb) (.BoolOp .Or (a :: b :: r) pos) (orF fa fb) := pe_imp (pe_or ha hb) fun _ _ _ q => or_read q
theorem pw_imp {e : Expr} {t t' : TT} (h : PW X e t) (i : ∀ σ H Q, t' σ H Q → t σ H Q) : PW X e t' := ⟨fun wh pins s σ H Q I q => h.run wh pins s σ H Q I (i σ H Q q)⟩
theorem sw_and (ha : ST X W pa a fa) (hb : SW X W pb (.BoolOp .And (b :: r) pos) fb) : SW X W (pa && pb) (.BoolOp .And (a :: b :: r) pos) (andF fa fb) := pw_imp (pw_and ha hb) fun σ H Q q => by
  refine tE_mono (and_read q) fun x H1 ⟨c, e, q⟩ => ⟨c, e, ?_⟩
  cases c with
  | true => exact q
  | false =>
    obtain ⟨c', e', q⟩ := q
    cases e'
    exact q
theorem sw_or (ha : ST X W pa a fa) (hb : SW X W pb (.BoolOp .Or (b :: r) pos) fb) : SW X W (pa && pb) (.BoolOp .Or (a :: b :: r) pos) (orF fa fb) := pw_imp (pw_or ha hb) fun σ H Q q => by
  refine tE_mono (or_read q) fun x H1 ⟨c, e, q⟩ => ⟨c, e, ?_⟩
  cases c with
  | false => exact q
  | true =>
    obtain ⟨c', e', q⟩ := q
    cases e'
    exact q
theorem se_not (ha : SE X W pa a fa) : SE X W pa (.UnaryOp .Not a pos) (notF fa) := pe_imp (pe_not ha) fun _ _ _ q => not_read q
theorem st_not (ha : ST X W pa a fa) : ST X W pa (.UnaryOp .Not a pos) (notF fa) := pt_imp (pt_not ha) fun σ H Q q => by
  refine tE_mono (not_read q) fun x H1 ⟨c, e, q⟩ => ⟨c, e, ?_⟩
  obtain ⟨c', e', q⟩ := q
  cases e'
  exact q
theorem se_ite (hc : ST X W pc c fc) (ha : SE X W pa a fa) (hb : SE X W pb b fb) : SE X W (pc && (pa && pb)) (.IfExp c a b pos) (iteF' fc fa fb) := pe_imp (pe_ifExp hc ha hb) fun σ H Q q => by
  refine tE_mono (ite_read q) fun x H1 ⟨c, e, q⟩ => ⟨c, e, ?_⟩
  cases c with
  | true => exact q
  | false => exact q

/-! ### displays -/
theorem pend_frz {K : PySem.W.Frag} {w : World} {F H : Hp} {T : List Addr} {out : Rv} {Q : VK} (q : PEnd K w F H T out Q) : PEnd K w (frz F H T) H [] out Q :=
  fun x F' H' T' g s e r => q x F' H' T' g ((stp_frz (B := []) (fun _ h => (by cases h)) fun _ h => h).trans s) e r
theorem frz_mono {F H : Hp} {A B : List Addr} (s : Same F H) (h : ∀ a ∈ A, a ∈ B) : Same (frz F H A) (frz F H B) := fun a o e => by
  have e2 := frz_below s a o e
  rcases frz_new e with z | z | ⟨xs, z⟩
  · exact frz_sub _ _ z
  · exact frz_at s (h a z) e2
  · unfold frz at e ⊢
    cases q : F a with
    | some u => rw [q] at e; exact e
    | none =>
      rw [q] at e
      simp only at e ⊢
      by_cases hb : a ∈ B
      · rw [if_pos hb]
        exact e2
      · rw [if_neg hb]
        rw [if_neg fun z => hb (h a z)] at e
        exact e
theorem pures_rep {K : PySem.W.Frag} {w : World} {F H : Hp} (s : Same F H) : ∀ {xs : List V} {rs : List Rv} {T : List Addr} {ds : List D}, RRs K w F H xs rs T → pures rs = some ds → RepDs K w (frz F H T) xs ds
  | [], [], _, ds, h, e => by
    simp only [pures, Option.some.injEq] at e
    subst e
    simp only [RepDs]
  | [], _ :: _, _, _, h, _ => by simp only [RRs] at h
  | _ :: _, [], _, _, h, _ => by simp only [RRs] at h
  | x :: xs, r :: rs, _, ds, h, e => by
    simp only [RRs] at h
    obtain ⟨T1, T2, h1, h2, rfl⟩ := h
    simp only [pures] at e
    cases e1 : r.pure? with
    | none => rw [e1] at e; cases e
    | some d =>
      rw [e1] at e
      simp only [Option.bind_some, Option.map_eq_some_iff] at e
      obtain ⟨es, e2, rfl⟩ := e
      simp only [RepDs]
      refine ⟨?_, (pures_rep s h2 e2).mono (frz_mono s fun a ha => List.mem_append_right _ ha)⟩
      cases r with
      | o kk =>
        simp only [Rv.pure?] at e1
        split at e1
        · rename_i hf
          cases e1
          exact (RM.frz h1 hf s).mono (frz_mono s fun a ha => List.mem_append_left _ ha)
        · cases e1
      | b kk =>
        cases kk with
        | d y =>
          simp only [Rv.pure?, Option.some.injEq] at e1
          subst e1
          exact (RR.pure (r := .b (.d y)) h1 rfl).mono frz_sub
        | _ => simp [Rv.pure?] at e1
theorem se_tup {es : List Expr} {pu : Bool} {fs : EvsF} {kk : Nat} (h : PA X es (tAs X.K X.w X.mg W pu fs)) : SE X W pu (.Tuple es kk pos) (evPrim tupF fs) := by
  refine pe_imp (pe_tup h) fun σ H Q q => ?_
  obtain ⟨m, F, A, hR, hG, q⟩ := tE_prim calm_tup q
  refine ⟨m, F, A, hR, hG, ?_⟩
  cases e : fs m with
  | bad => rw [e] at q; exact q
  | er c x => rw [e] at q; exact q
  | ok p =>
    obtain ⟨rs, m1⟩ := p
    rw [e] at q
    intro xs H1 z
    obtain ⟨F, T, rs, out, gs, hr, he, q⟩ := q xs H1 z
    unfold tupF at he
    split at he
    · rename_i ds ed
      split at he
      · rename_i hz
        cases he
        have hd := pures_rep gs.sub hr ed
        refine ⟨by rw [hd.length, ← big_eq]; exact hz, fun p hp => ?_⟩
        exact end_tup (gs_nil (frz_below gs.sub)) (pend_frz q) hd hp
      · cases he
    · cases he
theorem keep1 {K : PySem.W.Frag} {w : World} {F H : Hp} {x : V} {r : Rv} {k : M} {T : List Addr} (h : RR K w F H x r T) (e : keepM true r = some k) : RM K w F H x k T := by
  cases r with
  | o k0 =>
    unfold keepM at e
    simp only at e
    split at e
    · cases e
      exact h
    · cases e
  | b k0 =>
    cases k0 with
    | d y =>
      cases e
      obtain ⟨rfl, B, hB⟩ := h
      simp only [RM] at hB ⊢
      exact ⟨hB.1, trivial⟩
    | _ => cases e
theorem keeps_rep {K : PySem.W.Frag} {w : World} {F H : Hp} : ∀ {xs : List V} {rs : List Rv} {T : List Addr} {ks : List M}, RRs K w F H xs rs T → keeps rs = some ks → RMs K w F H xs ks T
  | [], [], _, ks, h, e => by
    simp only [keeps, Option.some.injEq] at e
    subst e
    simpa only [RRs, RMs] using h
  | [], _ :: _, _, _, h, _ => by simp only [RRs] at h
  | _ :: _, [], _, _, h, _ => by simp only [RRs] at h
  | x :: xs, r :: rs, _, ks, h, e => by
    simp only [RRs] at h
    obtain ⟨T1, T2, h1, h2, rfl⟩ := h
    simp only [keeps, Option.bind_eq_some_iff, Option.map_eq_some_iff] at e
    obtain ⟨k, e1, ks2, e2, rfl⟩ := e
    simp only [RMs]
    exact ⟨T1, T2, keep1 h1 e1, keeps_rep h2 e2, rfl⟩
theorem end_own {K : PySem.W.Frag} {w : World} {F H : Hp} {T : List Addr} {ks : List M} {vs : List V} {Q : VK} {p : Addr} (g : GS F H T) (e : PEnd K w F H T (.o (.l ks)) Q) (r : RMs K w F H vs ks T) (hp : H p = none) : Q (.ref p) (upd H p (.lst vs)) := by
  have fp : F p = none := g.sub.free hp
  have ne : ∀ a ∈ T, a ≠ p := fun a ha z => by
    obtain ⟨o, ho, _⟩ := g.own a ha
    rw [z, hp] at ho
    cases ho
  refine e (.ref p) F (upd H p (.lst vs)) (p :: T) ⟨g.sub.trans (same_new hp), List.nodup_cons.mpr ⟨fun z => ne p z rfl, g.nd⟩, fun a ha => ?_, fun a ha => ?_⟩ ⟨Same.refl _, fun a o h _ => same_new hp a o h, fun a ha => ?_, fun _ _ h => .inl h⟩ (same_new hp) ?_
  · rcases List.mem_cons.mp ha with z | z
    · rw [z]
      exact fp
    · exact g.off a z
  · rcases List.mem_cons.mp ha with z | z
    · subst z
      exact ⟨_, upd_same, fun xs z => by cases z⟩
    · obtain ⟨o, ho, ow⟩ := g.own a z
      exact ⟨o, same_new hp a o ho, ow⟩
  · rcases List.mem_cons.mp ha with z | z
    · exact .inr (z ▸ hp)
    · exact .inl z
  · show RM K w F _ _ (.l ks) (p :: T)
    simp only [RM]
    exact ⟨p, vs, T, rfl, upd_same, r.keep (Same.refl F) fun a ha => upd_ne (ne a ha), rfl⟩
theorem RMs.count {K : PySem.W.Frag} {w : World} {F H : Hp} : ∀ {ms : List M} {xs : List V} {A : List Addr}, RMs K w F H xs ms A → xs.length = ms.length
  | [], [], _, _ => rfl
  | [], _ :: _, _, h => by simp only [RMs] at h
  | _ :: _, [], _, h => by simp only [RMs] at h
  | m :: ms, x :: xs, _, h => by
    simp only [RMs] at h
    obtain ⟨A1, A2, h1, h2, rfl⟩ := h
    simp [RMs.count h2]
theorem dct_ok {P : Program} {w : World} {H' : Hp} {h : Heap} {a : Addr} {ents : Dc} (d : DctAt a ents h) : ObjOk P w H' h a (dctO a ents) :=
  ⟨d, let ⟨o, _, g, _⟩ := d; ⟨o, g⟩, fun h1 h2 ⟨o, es, g1, g2, g3, g4, g5⟩ k => ⟨o, es, k o g1, g2, g3, g4, g5⟩⟩
theorem dct_new {h : Heap} (hb : sysModules < h.objs.size) : DctAt h.objs.size ⟨0, []⟩ (h.push { cls := .type "dict", data := .dict #[] }) :=
  ⟨_, #[], Heap.get?_push_size _ rfl, ⟨rfl, rfl, rfl⟩, rfl, trivial, Nat.zero_le _, beq_eq_false_iff_ne.mpr (Ne.symm (Nat.ne_of_lt hb))⟩
theorem end_dct {K : PySem.W.Frag} {w : World} {F H : Hp} {T : List Addr} {kvs : List (D × D)} {ents : Dc} {Q : VK} {p : Addr} (g : GS F H T) (e : PEnd K w F H T (.o (.m kvs)) Q) (nd : (kvs.map fun q => keyOf q.1).Nodup) (r : RepKs K w F ents.en kvs) (hp : H p = none) : Q (.ref p) (upd H p (dctO p ents)) := by
  have fp : F p = none := g.sub.free hp
  refine e (.ref p) F (upd H p (dctO p ents)) [p] ⟨g.sub.trans (same_new hp), by simp, fun a ha => ?_, fun a ha => ?_⟩ ⟨Same.refl _, fun a o h _ => same_new hp a o h, fun a ha => ?_, fun _ _ h => .inl h⟩ (same_new hp) ?_
  · rw [List.mem_singleton] at ha
    rw [ha]
    exact fp
  · rw [List.mem_singleton] at ha
    subst ha
    exact ⟨_, upd_same, fun xs z => by unfold dctO at z; cases z⟩
  · rw [List.mem_singleton] at ha
    exact .inr (ha ▸ hp)
  · show RM K w F _ _ (.m kvs) [p]
    simp only [RM]
    exact ⟨p, ents, rfl, upd_same, nd, r, rfl⟩
/-- {} -/
theorem se_dct {pu : Bool} : SE X W pu (.Dict [] [] pos) (fun m => .ok (.o (.m []), m)) := ⟨fun pins s σ H Q I h => by
  obtain ⟨m, F, A, hR, hG, h⟩ := h
  refine wpAny_Dict_empty ⟨.ref s.heap.objs.size, _, I.laid (a := s.heap.objs.size) (o := dctO s.heap.objs.size ⟨0, []⟩) (t' := s.toks) (fun _ _ q => Heap.get?_push_of_some _ q) (Nat.le_refl _) (dct_ok (dct_new I.big)), rfl, ?_⟩
  have hn : H s.heap.objs.size = none := I.hok.fresh (Nat.le_refl _)
  refine h _ _ ⟨F, A, [s.heap.objs.size], ?_, ?_, ?_, ?_, ?_⟩
  · exact hR.keep (Same.refl F) fun a ha => upd_ne fun z => by
      obtain ⟨o, ho, _⟩ := hG.own a ha
      rw [z, hn] at ho
      cases ho
  · refine ⟨hG.sub.trans (same_new hn), ?_, fun a ha => ?_, fun a ha => ?_⟩
    · refine List.nodup_append.mpr ⟨hG.nd, by simp, fun a ha b hb => ?_⟩
      rw [List.mem_singleton] at hb
      subst hb
      obtain ⟨o, ho, _⟩ := hG.own a ha
      intro z
      rw [z, hn] at ho
      cases ho
    · rcases List.mem_append.mp ha with ha | ha
      · exact hG.off a ha
      · rw [List.mem_singleton] at ha
        rw [ha]
        exact hG.sub.free hn
    · rcases List.mem_append.mp ha with ha | ha
      · obtain ⟨o, ho, ow⟩ := hG.own a ha
        exact ⟨o, same_new hn a o ho, ow⟩
      · rw [List.mem_singleton] at ha
        subst ha
        exact ⟨_, upd_same, fun xs z => by unfold dctO at z; cases z⟩
  · refine ⟨Same.refl _, fun a o q _ => same_new hn a o q, fun a ha => ?_, fun _ _ q => .inl q⟩
    rcases List.mem_append.mp ha with ha | ha
    · exact .inl ha
    · rw [List.mem_singleton] at ha
      exact .inr (ha ▸ hn)
  · show RM X.K X.w F _ _ (.m []) [s.heap.objs.size]
    simp only [RM, List.map_nil, RepKs]
    exact ⟨_, ⟨0, []⟩, rfl, upd_same, List.nodup_nil, trivial, rfl⟩
  · exact fun _ => same_new hn⟩
theorem se_lst {own : Bool} {es : List Expr} {pu : Bool} {fs : EvsF} (h : PA X es (tAs X.K X.w X.mg W pu fs)) : SE X W pu (.List es pos) (evPrim (lstF own) fs) := by
  refine pe_imp (pe_lst h) fun σ H Q q => ?_
  obtain ⟨m, F, A, hR, hG, q⟩ := tE_prim calm_lst q
  refine ⟨m, F, A, hR, hG, ?_⟩
  cases e : fs m with
  | bad => rw [e] at q; exact q
  | er c x => rw [e] at q; exact q
  | ok p =>
    obtain ⟨rs, m1⟩ := p
    rw [e] at q
    intro xs H1 z
    obtain ⟨F, T, rs, out, gs, hr, he, q⟩ := q xs H1 z
    cases own with
    | false =>
      have he : lstV rs = .ok out := he
      unfold lstV at he
      split at he
      · rename_i ds ed
        split at he
        · rename_i hz
          cases he
          have hd := pures_rep gs.sub hr ed
          refine ⟨by rw [hd.length, ← big_eq]; exact hz, fun p hp => ?_⟩
          exact end_list (gs_nil (frz_below gs.sub)) (pend_frz q) hd hp
        · cases he
      · cases he
    | true =>
      have he : lstL rs = .ok out := he
      unfold lstL at he
      split at he
      · rename_i ks ed
        split at he
        · rename_i hz
          cases he
          have hd := keeps_rep hr ed
          exact ⟨by rw [hd.count, ← big_eq]; exact hz, fun p hp => end_own gs q hd hp⟩
        · cases he
      · cases he
/-! ### isinstance -/
theorem kit_data {pins : List (Addr × Obj)} {σ : L2.St} {H : Hp} {s : Shared} (I : Inv X pins σ H s) {d : D} {x : V} {u : Value} (h : RepD X.K X.w H x d) (r : RelV x u) :
    ∃ Z : Heap → Prop, PySem.W.KitX X.K u (.type (P.tyOf d)) Z ∧ Z s.heap ∧ u ≠ .builtin "__main__.__loader__#opaque" := by
  cases d with
  | none => simp only [RepD] at h; subst h; cases r; exact ⟨_, PySem.W.kitx_none, trivial, fun z => nomatch z⟩
  | bool b => simp only [RepD] at h; subst h; cases r; exact ⟨_, PySem.W.kitx_bool, trivial, fun z => nomatch z⟩
  | int b => simp only [RepD] at h; subst h; obtain ⟨t, rfl⟩ := r; exact ⟨_, PySem.W.kitx_int, trivial, fun z => nomatch z⟩
  | str b => simp only [RepD] at h; subst h; obtain ⟨t, rfl⟩ := r; exact ⟨_, PySem.W.kitx_str, trivial, fun z => nomatch z⟩
  | list ds =>
    simp only [RepD] at h
    obtain ⟨a, vs, rfl, h1, _⟩ := h
    cases r
    obtain ⟨its, _, pl, _⟩ := I.list (SqL.of h1)
    obtain ⟨o, n, e, c, _⟩ := pl
    exact ⟨_, PySem.W.kitx_list, ⟨o, e, c⟩, fun z => nomatch z⟩
  | tuple ds =>
    simp only [RepD] at h
    obtain ⟨a, vs, rfl, h1, _⟩ := h
    cases r
    obtain ⟨its, _, ⟨o, e, c, _⟩, _⟩ := I.tuple h1.sqT
    exact ⟨_, PySem.W.kitx_tuple, ⟨o, e, c⟩, fun z => nomatch z⟩
  | dict ds =>
    simp only [RepD] at h
    obtain ⟨a, vs, rfl, h1, _⟩ := h
    cases r
    obtain ⟨o, es, e, c, _⟩ := dct_at I h1
    exact ⟨_, PySem.W.kitx_dict, ⟨o, e, c.1⟩, fun z => nomatch z⟩
def knownTys : List String := ["int", "bool", "str", "list", "tuple", "dict"]
theorem known_mem {c : String} (h : P.tyKnown c = true) : c ∈ knownTys := by
  unfold P.tyKnown at h
  simp only [Bool.or_eq_true, beq_iff_eq] at h
  rcases h with ((((h | h) | h) | h) | h) | h <;> subst h <;> decide
theorem kit_tab : ∀ a ∈ "NoneType" :: knownTys, ∀ b ∈ knownTys, kitB a b = some (P.isTy a b) := by decide +kernel
theorem ty_mem (d : D) : P.tyOf d ∈ "NoneType" :: knownTys := by cases d <;> simp [P.tyOf, knownTys]
theorem boot_tys : ∀ b ∈ knownTys, bootBuiltins (Str.ofString b) = some (.type b) := by decide +kernel
theorem kit_is {K : PySem.W.Frag} {d : D} {c : String} (h : P.tyKnown c = true) : PySem.W.kitOne K (.type (P.tyOf d)) (.type c) = some (P.isTy (P.tyOf d) c) := kit_ty (kit_tab _ (ty_mem d) _ (known_mem h))
theorem bis_tys : ∀ b ∈ knownTys, Str.ofString b ∈ bis := by decide +kernel
theorem gl_ty (C : Ctx X k fs cf cs W) {sc : Scope} {c : String} {g : Str} {p : Pos} (hs : X.env.scope = sc) (e : g = Str.ofString c) (hg : isGl sc g = true) (h : P.tyKnown c = true) : PE X (.Name g p) (tC (.ty c)) := by
  subst e
  obtain ⟨g1, g2, g3⟩ := gl_of hs hg
  exact pe_bltn g1 (C.bi _ (bis_tys _ (known_mem h))) (boot_tys _ (known_mem h)) rfl g3 g2
theorem call_Isi {c : String} (h : P.tyKnown c = true) : CallR X (.builtin "isinstance") (fun xs H Q => ∃ x, xs = [x, .ty c] ∧ rP X.K X.w (isiF [c]) [x] H Q) := by
  intro pins s σ H xs us Q I rx hq
  obtain ⟨x, rfl, F, T, rs, out, gs, hr, he, q⟩ := hq
  obtain ⟨r, rfl, h1⟩ := hr.one
  obtain ⟨u1, u2, rfl, r1, r2⟩ := vals2 rx
  cases r2
  unfold isiF P.isi at he
  simp only at he
  split at he
  · rename_i hf
    cases he
    have hd := h1.read hf gs.sub
    obtain ⟨P', Z, p, hx⟩ := kit_data I hd r1
    refine PySem.W.kia_one Z I.kIn p (kit_is h) hx fun tk => ⟨.bl _, H, I.tok tk, rfl, ?_⟩
    refine end_flat gs q ?_
    simp only [List.any_cons, List.any_nil, Bool.or_false]
    exact rep_bl
  · cases he
theorem call_Isi2 {c d : String} (h : P.tyKnown c = true) (h' : P.tyKnown d = true) : CallR X (.builtin "isinstance") (fun xs H Q => ∃ x tp, xs = [x, .ref tp] ∧ H tp = some (.tup [.ty c, .ty d]) ∧ rP X.K X.w (isiF [c, d]) [x] H Q) := by
  intro pins s σ H xs us Q I rx hq
  obtain ⟨x, tp, rfl, ht, F, T, rs, out, gs, hr, he, q⟩ := hq
  obtain ⟨r, rfl, h1⟩ := hr.one
  obtain ⟨u1, u2, rfl, r1, r2⟩ := vals2 rx
  cases r2
  unfold isiF P.isi at he
  simp only at he
  split at he
  · rename_i hf
    cases he
    have hd := h1.read hf gs.sub
    obtain ⟨P', Z, p, hx⟩ := kit_data I hd r1
    obtain ⟨_, its, rv, ⟨oc, od, dt, sl⟩, h5, h6, n, h7⟩ := (show ObjOk X.prog X.w H s.heap tp (.tup [.ty c, .ty d]) from I.hok tp _ ht)
    simp only at h6 h7
    subst h6 h7
    obtain ⟨z1, z2, rfl, q1, q2⟩ := vals2 rv
    cases q1
    cases q2
    refine PySem.W.kia_tup (b := P.isTy (P.tyOf r.data) c || P.isTy (P.tyOf r.data) d) Z I.kIn p h5 ?_ hx fun tk => ⟨.bl _, H, I.tok tk, rfl, ?_⟩
    · refine kitAny_cons (kit_is h) (fun e => ?_) fun e => ?_
      · rw [e, Bool.false_or]
        exact kitAny_cons (kit_is h') (fun e => by rw [e]; exact kitAny_nil) fun e => e
      · rw [e] <;> rfl
    · refine end_flat gs q ?_
      simp only [List.any_cons, List.any_nil, Bool.or_false]
      exact rep_bl
  · cases he
theorem se_isi (C : Ctx X k fs cf cs W) {sc : Scope} {f g : Str} {c : String} {e : Expr} {pn pg : Pos} (hs : X.env.scope = sc) (hf : f = "isinstance") (hg : isGl sc f = true) (eg : g = Str.ofString c) (hgg : isGl sc g = true) (h : P.tyKnown c = true) (ok : okE e = true) (ha : SE X W pa e fa) :
    SE X W pa (.Call (.Name f pn) [e, .Name g pg] [] pos) (ev1 (isiF [c]) fa) := by
  subst hf
  obtain ⟨g1, g2, g3⟩ := gl_of hs hg
  refine pe_imp (pe_callB (call_Isi h) g1 (C.bi _ (by decide)) (by decide +kernel) (pa_cons ha (pa_cons (gl_ty C hs eg hgg h) pa_nil) (star_ok ok)) g3 g2 (star_ok ok) rfl) fun σ H Q q => ?_
  exact tE_mono (tE_1 calm_isi q) fun x H1 q => ⟨x, rfl, q⟩
theorem rP_grow {K : PySem.W.Frag} {w : World} {p : Pf} {x : V} {H : Hp} {Q : VK} {a : Addr} {xs : List V} (ha : H a = none) (h : rP K w p [x] H Q) : rP K w p [x] (upd H a (.tup xs)) Q := by
  obtain ⟨F, T, rs, out, gs, hr, he, q⟩ := h
  have sm : Same H (upd H a (.tup xs)) := same_new ha
  refine ⟨F, T, rs, out, ⟨gs.sub.trans sm, gs.nd, gs.off, fun b hb => ?_⟩, hr.keep (Same.refl F) (fun b hb => ?_) (fun r hr e => sm), he, fun x F' H' T' g s e r => q x F' H' T' g ⟨s.ff, fun b o h hb => s.keep b o (sm b o h) hb, fun b hb => ?_, fun b o hb => ?_⟩ (sm.trans e) r⟩
  · obtain ⟨o, ho, ow⟩ := gs.own b hb
    exact ⟨o, sm b o ho, ow⟩
  · obtain ⟨o, ho, ow⟩ := gs.own b hb
    rw [ho, sm b o ho]
  · rcases s.own b hb with z | z
    · exact .inl z
    · exact .inr (sm.free z)
  · rcases s.new b o hb with z | z | z | z
    · exact .inl z
    · exact .inr (.inl z)
    · exact .inr (.inr (.inl (sm.free z)))
    · exact .inr (.inr (.inr z))
theorem se_isi2 (C : Ctx X k fs cf cs W) {sc : Scope} {f g g' : Str} {c d : String} {e : Expr} {pn pg pg' pt : Pos} {kk : Nat} (hs : X.env.scope = sc) (hf : f = "isinstance") (hg : isGl sc f = true) (eg : g = Str.ofString c) (hgg : isGl sc g = true) (h : P.tyKnown c = true)
    (eg' : g' = Str.ofString d) (hgg' : isGl sc g' = true) (h' : P.tyKnown d = true) (ok : okE e = true) (ha : SE X W pa e fa) : SE X W pa (.Call (.Name f pn) [e, .Tuple [.Name g pg, .Name g' pg'] kk pt] [] pos) (ev1 (isiF [c, d]) fa) := by
  subst hf
  obtain ⟨g1, g2, g3⟩ := gl_of hs hg
  refine pe_imp (pe_callB (call_Isi2 h h') g1 (C.bi _ (by decide)) (by decide +kernel) (pa_cons ha (pa_cons (pe_tup (pa_cons (gl_ty C hs eg hgg h) (pa_cons (gl_ty C hs eg' hgg' h') pa_nil))) pa_nil) (star_ok ok)) g3 g2 (star_ok ok) rfl) fun σ H Q q => ?_
  refine tE_mono (tE_1 calm_isi q) fun x H1 q => ⟨by show 2 ≤ sizeLine; decide, fun p hp => ⟨x, p, rfl, upd_same, rP_grow hp q⟩⟩
end
end Oa

/-! Part 11: chains, list(range), pop, count, x[i]. -/
namespace Oa
open PySem PySem.Spec PyProof.Rows L2
section
variable {X : Cx} {k : Nat} {fs : List (Str × Nat)} {cf : CfT} {cs : Str → Option D} {W : WX}
/-! ### chains of ints -/
theorem last_marks {o u : CmpOp} {y z : Expr} (h : okE z = true) : lastMarks [o, u] [y, z] = false := no_marks h
theorem cmpI_rule {p : P2} {o : CmpOp} (h : isCmp p o = true) (e : cmpOk p = true) : OpR X (compareOp o) (rI0 fun i j => .bl ((cmpI p i j).getD false)) := by
  match p, o, h with
  | .lt, .Lt, _ => exact op_lt
  | .le, .LtE, _ => exact op_le
  | .gt, .Gt, _ => exact op_gt
  | .ge, .GtE, _ => exact op_ge
  | .eq, .Eq, _ => cases e
  | .ne, .NotEq, _ => cases e
  | .isin, .In, _ => cases e
  | .notin, .NotIn, _ => cases e
  | .isp, .Is, _ => cases e
  | .isnot, .IsNot, _ => cases e
theorem cmpI_some {p : P2} (h : cmpOk p = true) (i j : Int) : cmpI p i j = some ((cmpI p i j).getD false) := by
  cases p <;> first | rfl | cases h
theorem tE_intB {K : PySem.W.Frag} {w : World} {mg : Str → Option Value} {pa pb : Bool} {fa : EvF} {g : Int → EvF} {σ : L2.St} {H : Hp} {Q : VK} (h : tE K w mg W (pa && pb) (intB fa g) σ H Q) : tE K w mg W pa fa σ H fun x H1 => ∃ i, x = .int i ∧ tE K w mg W pb (g i) σ H1 Q := by
  obtain ⟨m, F, A, hR, hG, h⟩ := h
  refine ⟨m, F, A, hR, hG, ?_⟩
  unfold intB at h
  cases e1 : fa m with
  | bad => rw [e1] at h; exact h.elim
  | er c x => rw [e1] at h; exact h
  | ok p =>
    obtain ⟨r, m1⟩ := p
    rw [e1] at h
    simp only [Res.bind_ok] at h
    show ∀ x H', EvP K w pa F H A σ r m1 x H' → _
    rintro x H1 ⟨F1, A1, T1, hR1, g1, s1, r1, p1⟩
    cases ei : r.m.int? with
    | none => simp only [ei] at h
    | some i =>
      simp only [ei] at h
      refine ⟨i, r1.int ei, m1, F1, A1, hR1, g1.left, ?_⟩
      cases e2 : g i m1 with
      | bad => rw [e2] at h; exact h
      | er c y =>
        rw [e2] at h
        intro cls d H' q
        exact h cls d H' ((q.less (A := A1 ++ T1) fun a ha => List.mem_append_left _ ha).back s1)
      | ok p =>
        obtain ⟨r2, m2⟩ := p
        rw [e2] at h
        intro y H2 q
        exact h y H2 (ev_then g1 s1 p1 q)
section
variable {K : PySem.W.Frag} {w : World} {mg : Str → Option Value}
theorem tE_weak {p q : Bool} {f : EvF} {σ : L2.St} {H : Hp} {Q : VK} (i : p = true → q = true) (h : tE K w mg W p f σ H Q) : tE K w mg W q f σ H Q := by
  obtain ⟨m, F, A, hR, hG, h⟩ := h
  refine ⟨m, F, A, hR, hG, ?_⟩
  cases e : f m with
  | ok z =>
    rw [e] at h
    obtain ⟨r, m'⟩ := z
    intro x H' ⟨F', A', T, a1, a2, a3, a4, a5⟩
    exact h x H' ⟨F', A', T, a1, a2, a3, a4, fun e => a5 (i e)⟩
  | er c x => rw [e] at h; exact h
  | bad => rw [e] at h; exact h
abbrev rCmp (p : P2) : R2 := rI0 fun i j => .bl ((cmpI p i j).getD false)
theorem cmp2_read {p q : P2} {pa pb pc : Bool} {fa fb fc : EvF} {σ : L2.St} {H : Hp} {Q : VK} (hp : cmpOk p = true) (hq : cmpOk q = true) (h : tE K w mg W (pa && (pb && pc)) (cmp2F p q fa fb fc) σ H Q) :
    tChain (rCmp p) (rCmp q) (tE K w mg W pa fa) (tE K w mg W pb fb) (tE K w mg W pc fc) σ H Q := by
  refine tE_mono (tE_intB h) fun x H1 ⟨i, ex, h⟩ => tE_mono (tE_intB h) fun y H2 ⟨j, ey, h⟩ => ⟨i, j, ex, ey, _, rfl, ?_⟩
  subst ex ey
  rw [cmpI_some hp i j] at h
  cases e : (cmpI p i j).getD false with
  | false =>
    rw [e] at h
    rw [if_neg Bool.false_ne_true]
    exact tE_ok (mg := mg) (W := W) (pb := pc) h
  | true =>
    rw [e] at h
    rw [if_pos rfl]
    have h' : tE K w mg W (pc && true) (intB fc fun k => (match cmpI q j k with
      | some b => okB b
      | none => badF)) σ H2 Q := by rw [Bool.and_true]; exact h
    refine tE_mono (tE_intB h') fun z H3 ⟨l, ez, h⟩ => ⟨j, l, rfl, ez, ?_⟩
    rw [cmpI_some hq j l] at h
    exact tE_ok (mg := mg) (W := W) (pb := true) h
end
theorem se_cmp2 {p q : P2} {o u : CmpOp} {a b c : Expr} {pa pb pc : Bool} {fa fb fc : EvF} {pos : Pos} (h : isCmp p o = true) (h' : isCmp q u = true) (hp : cmpOk p = true) (hq : cmpOk q = true) (ok : okE c = true)
    (ha : SE X W pa a fa) (hb : SE X W pb b fb) (hc : SE X W pc c fc) : SE X W (pa && (pb && pc)) (.Compare a [o, u] [b, c] pos) (cmp2F p q fa fb fc) :=
  pe_imp (pe_chain (cmpI_rule h hp) (cmpI_rule h' hq) ha hb hc (last_marks ok)) fun σ H Q z => cmp2_read hp hq z
theorem st_cmp2 {p q : P2} {o u : CmpOp} {a b c : Expr} {pa pb pc : Bool} {fa fb fc : EvF} {pos : Pos} (h : isCmp p o = true) (h' : isCmp q u = true) (hp : cmpOk p = true) (hq : cmpOk q = true) (ok : okE c = true)
    (ha : SE X W pa a fa) (hb : SE X W pb b fb) (hc : SE X W pc c fc) : ST X W (pa && (pb && pc)) (.Compare a [o, u] [b, c] pos) (cmp2F p q fa fb fc) :=
  pt_imp (pt_chain (cmpI_rule h hp) (cmpI_rule h' hq) ha hb hc (last_marks ok)) fun σ H Q z => cmp2_read hp hq z

/-! ### list(range(a)) -/
theorem rep_rg {K : PySem.W.Frag} {w : World} {F : Hp} (a b : Int) : RepDs K w F (rgV a b) (rngList a b) := by
  unfold rgV rngList
  generalize List.range (b - a).toNat = l
  induction l with
  | nil => simp only [List.map_nil, RepDs]
  | cons i l ih => simp only [List.map_cons, RepDs, RepD]; exact ⟨trivial, ih⟩
theorem se_lrng1 (C : Ctx X k fs cf cs W) {sc : Scope} {f g : Str} {e : Expr} {pn pg pr pos : Pos} {pa : Bool} {fa : EvF} (hs : X.env.scope = sc) (hf : f = "list") (hg : isGl sc f = true) (hf' : g = "range") (hg' : isGl sc g = true) (ok : okE e = true)
    (ha : SE X W pa e fa) : SE X W pa (.Call (.Name f pn) [.Call (.Name g pg) [e] [] pr] [] pos) (ev1 lrngF fa) := by
  subst hf hf'
  obtain ⟨g1, g2, g3⟩ := gl_of hs hg
  obtain ⟨k1, k2, k3⟩ := gl_of hs hg'
  refine pe_imp (pe_listRg C.calm g1 (C.bi _ (by decide)) (prg_1 k1 (C.bi _ (by decide)) ha (star_ok ok))) fun σ H Q q => tE_mono (tE_1 calm_lrng q) fun x H1 q => ?_
  obtain ⟨F, T, rs, out, gs, hr, he, q⟩ := q
  obtain ⟨r, rfl, h1⟩ := hr.one
  unfold lrngF at he
  simp only at he
  split at he
  · rename_i j ej
    split at he
    · rename_i hz
      cases he
      refine ⟨j, h1.int ej, ⟨by decide, by decide, by omega, by omega, ?_⟩, fun p hp => end_list gs q (rep_rg 0 j) hp⟩
      have := hz.2.2
      rw [Int.sub_zero]
      exact this
    · cases he
  · cases he
end
end Oa

/-! Part 12: pop, count, x[i]. -/
namespace Oa
open PySem PySem.Spec PyProof.Rows L2
theorem base_ok {o : Expr} {name : Str} {env : Env} (h : noBase o = true) : attributeBase o name env (eval o env) = eval o env := by
  cases o with
  | Call f as ks p =>
    cases as with
    | nil => cases h
    | cons a r => cases f <;> rfl
  | _ => rfl
section
variable {X : Cx} {k : Nat} {fs : List (Str × Nat)} {cf : CfT} {cs : Str → Option D} {W : WX}
/-! ### what is owned is written -/
theorem own_write {F H : Hp} {A1 A2 A3 : List Addr} {a : Addr} {o : HO} (g : GS F H (A1 ++ A2 ++ A3)) (ha : a ∈ A2) (ow : Ownd o) :
    GS F (upd H a o) (A1 ++ A2 ++ A3) ∧ Stp (A1 ++ A2 ++ A3) F H (A1 ++ A2 ++ A3) F (upd H a o) ∧ ∀ b ∈ A1 ++ A3, upd H a o b = H b := by
  have hA : a ∈ A1 ++ A2 ++ A3 := List.mem_append_left _ (List.mem_append_right _ ha)
  have fa := g.off a hA
  have ff : ∀ b u, F b = some u → b ≠ a := fun b u e z => by rw [z, fa] at e; cases e
  refine ⟨⟨fun b u e => ?_, g.nd, g.off, fun b hb => ?_⟩, ⟨Same.refl F, fun b u e hb => ?_, fun b hb => .inl hb, fun b u e => .inl e⟩, fun b hb => ?_⟩
  · rw [upd_ne (ff b u e)]
    exact g.sub b u e
  · by_cases e : b = a
    · subst e
      exact ⟨o, upd_same, ow⟩
    · rw [upd_ne e]
      exact g.own b hb
  · rw [upd_ne fun z => hb (by rw [z]; exact hA)]
    exact e
  · refine upd_ne fun z => ?_
    subst z
    have nd := g.nd
    rw [List.append_assoc, List.nodup_append] at nd
    rcases List.mem_append.mp hb with h | h
    · exact nd.2.2 b h b (List.mem_append_left _ ha) rfl
    · exact (List.nodup_append.mp nd.2.1).2.2 b ha b h rfl
theorem lst_ownd (vs : List V) : Ownd (.lst vs) := fun xs z => by cases z
theorem RepDs.dropLast {K : PySem.W.Frag} {w : World} {F : Hp} {ds : List D} {xs : List V} (h : RepDs K w F xs ds) : RepDs K w F xs.dropLast ds.dropLast := by
  rw [List.dropLast_eq_take, List.dropLast_eq_take, h.length]
  exact h.take _
theorem RepDs.erase {K : PySem.W.Frag} {w : World} {F : Hp} {ds : List D} {xs : List V} (h : RepDs K w F xs ds) (i : Nat) : RepDs K w F (xs.eraseIdx i) (ds.eraseIdx i) := by
  rw [List.eraseIdx_eq_take_drop_succ, List.eraseIdx_eq_take_drop_succ]
  exact (h.take _).app (h.drop _)
/-- slot i holds a list of its own: rewritten, a datum is given -/
theorem ev_rewrite {K : PySem.W.Frag} {w : World} {F H : Hp} {σ : L2.St} {m : Sl} {A : List Addr} {i : Nat} {xs ys : List D} {d : D} (hR : RS K w F H σ m A) (hG : GS F H A) (e : m[i]? = some (some (.v xs))) :
    ∃ a vs, σ[i]? = some (some (.ref a)) ∧ H a = some (.lst vs) ∧ RepDs K w F vs xs ∧ ∀ us y, RepDs K w F us ys → RepD K w F y d → EvP K w false F H A σ (.p d) (m.set i (some (.v ys))) y (upd H a (.lst us)) := by
  obtain ⟨u, A1, A2, A3, g1, g2, g3, g4, _⟩ := hR.at e
  simp only [RM] at g3
  obtain ⟨a, vs, rfl, k1, k2, rfl⟩ := g3
  subst g2
  refine ⟨a, vs, g1, k1, k2, fun us y r1 r2 => ?_⟩
  obtain ⟨w1, w2, w3⟩ := own_write (o := .lst us) hG (List.mem_singleton.mpr rfl) (lst_ownd us)
  refine ⟨F, A1 ++ [a] ++ A3, [], ?_, by simpa using w1, by simpa using w2, ?_, fun e => by cases e⟩
  · have := g4 F (upd H a (.lst us)) (.ref a) (.v ys) [a] (Same.refl F) w3 (by simp only [RM]; exact ⟨a, us, rfl, upd_same, r1, rfl⟩)
    rwa [set_same g1] at this
  · show RM K w F (upd H a (.lst us)) y (.d d) []
    simp only [RM]
    exact ⟨r2, trivial⟩
theorem pw_lst : PlainAttrs "list" := F.plainAttrs_list
theorem se_pop {sc : Scope} {i : Nat} {x f : Str} {p a cp : Pos} (hs : X.env.scope = sc) (hf : f = "pop") (h : isNm X.N sc i x = true) (hl : (a.endLine == cp.line) = true) : SE X W false (.Call (.Attribute (.Name x p) f a) [] [] cp) ((Ex.pop i).ev cf cs) := by
  subst hs hf
  obtain ⟨h1, h2, h3, h4⟩ := vis_of h
  refine pe_imp (pe_bm0 (r := rPop) F.plainAttrs_list F.slot_list_pop F.type_list_pop mt_pop (pe_var h1 h2 h3 h4) rfl hl) fun σ H Q q => ?_
  obtain ⟨m, F, A, hR, hG, q⟩ := q
  unfold Ex.ev at q
  split at q
  · rename_i e0
    split at e0
    · rename_i xs em
      split at e0
      · rename_i d ed
        cases e0
        obtain ⟨b, vs, g1, g2, g3, g4⟩ := ev_rewrite (ys := xs.dropLast) (d := d) hR hG em
        obtain ⟨y, hy, ry⟩ := g3.get ed
        refine ⟨_, g1, .inl ⟨rfl, vs, SqL.of g2⟩, b, vs, y, rfl, rfl, g2, by rw [g3.length]; exact hy, q _ _ (g4 _ _ g3.dropLast ry)⟩
      · cases e0
    · cases e0
  · rename_i e0
    (repeat' split at e0) <;> cases e0
  · exact q.elim
theorem tE_atF {K : PySem.W.Frag} {w : World} {mg : Str → Option Value} {pu : Bool} {ok : M → Bool} {i : Nat} {f : EvF} {σ : L2.St} {H : Hp} {Q : VK} (h : tE K w mg W pu (atF ok i f) σ H Q) :
    ∃ u, σ[i]? = some (some u) ∧ (∃ kk F A, ok kk = true ∧ Same F H ∧ RM K w F H u kk A) ∧ tE K w mg W pu f σ H Q := by
  obtain ⟨m, F, A, hR, hG, q⟩ := h
  unfold atF at q
  cases em : m[i]? with
  | none => rw [em] at q; exact q.elim
  | some o => cases o with
    | none => rw [em] at q; exact q.elim
    | some kk =>
      rw [em] at q
      simp only at q
      cases eo : ok kk with
      | false => rw [eo] at q; exact q.elim
      | true =>
        rw [eo, if_pos rfl] at q
        obtain ⟨u, A1, A2, A3, g1, g2, g3, _, _⟩ := hR.at em
        exact ⟨u, g1, ⟨kk, F, A2, eo, hG.sub, g3⟩, m, F, A, hR, hG, q⟩
theorem isV_lst {K : PySem.W.Frag} {w : World} {u : V} {kk : M} {F H : Hp} {A : List Addr} (h : M.isV kk = true) (r : RM K w F H u kk A) : ∃ a vs, u = .ref a ∧ H a = some (.lst vs) := by
  cases kk with
  | v xs =>
    simp only [RM] at r
    obtain ⟨a, vs, h1, h2, _⟩ := r
    exact ⟨a, vs, h1, h2⟩
  | _ => cases h
theorem se_popAt {sc : Scope} {i : Nat} {x f : Str} {b : Ex} {e : Expr} {p a cp : Pos} (hs : X.env.scope = sc) (hf : f = "pop") (h : isNm X.N sc i x = true) (hl : (a.endLine == cp.line) = true) (ok : okE e = true)
    (he : SE X W b.pu e (b.ev cf cs)) : SE X W false (.Call (.Attribute (.Name x p) f a) [e] [] cp) ((Ex.popAt i b).ev cf cs) := by
  subst hs hf
  obtain ⟨h1, h2, h3, h4⟩ := vis_of h
  refine pe_imp (pe_bm (r := rPopAt) F.plainAttrs_list F.slot_list_pop F.type_list_pop mt_popAt (pe_var h1 h2 h3 h4) (pa_cons he pa_nil (star_ok ok)) rfl (by rw [star_ok ok]; rfl) hl (star_ok ok) rfl) fun σ H Q q => ?_
  unfold Ex.ev at q
  obtain ⟨u, g1, ⟨kk, F, A, ek, sm, rk⟩, q⟩ := tE_atF q
  obtain ⟨b', vs, rfl, g2⟩ := isV_lst ek rk
  refine ⟨_, g1, .inl ⟨rfl, vs, SqL.of g2⟩, ?_⟩
  have h' : tE X.K X.w X.mg W (b.pu && false) (intB (b.ev cf cs) (popAtF i)) σ H Q := by rw [Bool.and_false]; exact q
  refine tE_mono (tE_intB h') fun z H1 ⟨j, ez, q⟩ => ?_
  subst ez
  obtain ⟨m1, F1, A1, hR1, hG1, q⟩ := q
  cases e : popAtF i j m1 with
  | bad => rw [e] at q; exact q.elim
  | er c y => unfold popAtF at e; (repeat' split at e) <;> cases e
  | ok p =>
    rw [e] at q
    unfold popAtF at e
    split at e
    · rename_i ys em1
      split at e
      · rename_i d ed
        cases e
        split at ed
        · rename_i hz
          obtain ⟨b2, us, k1, k2, k3, k4⟩ := ev_rewrite (ys := ys.eraseIdx j.toNat) (d := d) hR1 hG1 em1
          rw [g1] at k1
          cases k1
          obtain ⟨y, hy, ry⟩ := k3.get ed
          have hlt : j.toNat < us.length := (List.getElem?_eq_some_iff.mp hy).1
          exact ⟨b', us, j, j.toNat, y, rfl, rfl, k2, by omega, by omega, seqIndex_of hz.1 (by omega), hy, q _ _ (k4 _ _ (k3.erase _) ry)⟩
        · cases ed
      · cases e
    · cases e
theorem ev_end {K : PySem.W.Frag} {w : World} {pu : Bool} {F H F' H' : Hp} {σ : L2.St} {m : Sl} {A T' : List Addr} {x : V} {out : Rv} (hR : RS K w F H σ m A) (hG : GS F H A) (g : GS F' H' T') (s : Stp [] F H T' F' H') (r : RR K w F' H' x out T') (e : Same H H') : EvP K w pu F H A σ out m x H' := by
  have hd : Held A [] F H := ⟨hG.own, hG.off, fun _ _ h => nomatch h⟩
  obtain ⟨hd2, hk2⟩ := s.held g.sub hd
  exact ⟨F', A, T', hR.keep s.ff hk2, (g.join hd2 hG.nd).swap, by simpa using s.frame (T := A), r, fun _ => e⟩
theorem se_ix (hr : Room k X.A) {sc : Scope} {i : Nat} {x : Str} {b : Ex} {e : Expr} {p pos : Pos} (hs : X.env.scope = sc) (h : isNm X.N sc i x = true) (ok : okE e = true) (he : SE X W b.pu e (b.ev cf cs)) :
    SE X W b.pu (.Subscript (.Name x p) e pos) ((Ex.ix i b).ev cf cs) := by
  subst hs
  obtain ⟨h1, h2, h3, h4⟩ := vis_of h
  refine pe_imp (pe_ix (ix_Idx hr) (pe_var h1 h2 h3 h4) he (plain_ix ok)) fun σ H Q q => ?_
  unfold Ex.ev at q
  obtain ⟨u, g1, _, q⟩ := tE_atF q
  refine ⟨u, g1, ?_⟩
  have h' : tE X.K X.w X.mg W (b.pu && true) (intB (b.ev cf cs) (ixF i)) σ H Q := by rw [Bool.and_true]; exact q
  refine tE_mono (tE_intB h') fun z H1 ⟨j, ez, q⟩ => ?_
  subst ez
  obtain ⟨m1, F1, A1, hR1, hG1, q⟩ := q
  cases e : ixF i j m1 with
  | bad => rw [e] at q; exact q.elim
  | er c y =>
    unfold ixF at e
    split at e
    · rename_i kk em
      cases ep : P.idx [.b kk, .p (.int j)] with
      | ok r => rw [ep] at e; cases e
      | er c' x' => exact absurd ep (calm2 .idx [.b kk, .p (.int j)] c' x')
      | bad => rw [ep] at e; cases e
    · cases e
  | ok p =>
    rw [e] at q
    unfold ixF at e
    split at e
    · rename_i kk em
      cases ep : P.idx [.b kk, .p (.int j)] with
      | ok r =>
        rw [ep] at e
        cases e
        obtain ⟨u', B1, B2, B3, k1, k2, k3, _, _⟩ := hR1.at em
        rw [g1] at k1
        cases k1
        subst k2
        refine ⟨F1, [], [.b kk, .p (.int j)], r, gs_nil hG1.sub, ?_, ep, fun y F' H' T' g s e r => q y H' (ev_end hR1 hG1 g s r e)⟩
        · simp only [RRs]
          refine ⟨[], [], ⟨rfl, B2, k3⟩, ⟨[], [], ?_, rfl, rfl⟩, rfl⟩
          show RM X.K X.w F1 H1 (.int j) (.d (.int j)) []
          simp only [RM, RepD]
          exact ⟨trivial, trivial⟩
      | er c' x' => rw [ep] at e; cases e
      | bad => rw [ep] at e; cases e
    · cases e
/-! ### x.count(y) -/
theorem tE_kd {K : PySem.W.Frag} {w : World} {mg : Str → Option Value} {pa : Bool} {kd : Rv → Bool} {fa : EvF} {σ : L2.St} {H : Hp} {Q : VK} (h : tE K w mg W pa (kdF kd fa) σ H Q) :
    tE K w mg W pa fa σ H fun x H1 => (∃ F T r, Same F H1 ∧ RR K w F H1 x r T ∧ kd r = true) ∧ Q x H1 := by
  obtain ⟨m, F, A, hR, hG, h⟩ := h
  refine ⟨m, F, A, hR, hG, ?_⟩
  unfold kdF at h
  cases e1 : fa m with
  | bad => rw [e1] at h; exact h.elim
  | er c x => rw [e1] at h; exact h
  | ok p =>
    obtain ⟨r, m1⟩ := p
    rw [e1] at h
    simp only [Res.bind_ok] at h
    cases ek : kd r with
    | false => rw [ek] at h; exact h.elim
    | true =>
      rw [ek, if_pos rfl] at h
      intro x H1 z
      have z' := z
      obtain ⟨F1, A1, T1, _, g1, _, r1, _⟩ := z'
      exact ⟨⟨F1, T1, r, g1.sub, r1, ek⟩, h x H1 z⟩
/-- what is of a kind -/
theorem isK_ty {K : PySem.W.Frag} {w : World} {t : Bool} {F H : Hp} {x : V} {r : Rv} {T : List Addr} (s : Same F H) (h : RR K w F H x r T) (e : P.isK t r = true) :
    ∃ a vs, x = .ref a ∧ ((t = false ∧ H a = some (.lst vs)) ∨ (t = true ∧ ∃ o, H a = some (.frz o (.tup vs)) ∧ o.dict = none)) := by
  have go : ∀ {m : M} {A : List Addr}, RM K w F H x m A → (match m with
      | .t _ => t
      | m => match m.data with
        | .list _ => !t
        | _ => false) = true → ∃ a vs, x = .ref a ∧ ((t = false ∧ H a = some (.lst vs)) ∨ (t = true ∧ ∃ o, H a = some (.frz o (.tup vs)) ∧ o.dict = none)) := fun {m A} h e => by
    cases m with
    | d y =>
      cases y with
      | list ds =>
        simp only [RM, RepD] at h
        obtain ⟨⟨a, vs, h1, h2, _⟩, _⟩ := h
        exact ⟨a, vs, h1, .inl ⟨by simpa [M.data] using e, s _ _ h2⟩⟩
      | _ => simp [M.data] at e
    | v ds =>
      simp only [RM] at h
      obtain ⟨a, vs, h1, h2, _⟩ := h
      exact ⟨a, vs, h1, .inl ⟨by simpa [M.data] using e, h2⟩⟩
    | l ds =>
      simp only [RM] at h
      obtain ⟨a, vs, B, h1, h2, _⟩ := h
      exact ⟨a, vs, h1, .inl ⟨by simpa [M.data] using e, h2⟩⟩
    | m ds => simp [M.data] at e
    | g ks ms => simp [M.data] at e
    | s ds => simp [M.data] at e
    | t ds =>
      simp only [RM] at h
      obtain ⟨a, vs, o, h1, h2, h3, _⟩ := h
      exact ⟨a, vs, h1, .inr ⟨by simpa using e, o, s _ _ h2, h3⟩⟩
  cases r with
  | o m => exact go h e
  | b m =>
    obtain ⟨_, B, h⟩ := h
    exact go h e
theorem isK_of {K : PySem.W.Frag} {w : World} {t : Bool} {H : Hp} {x : V} {r : Rv} (h : RepD K w H x r.data) (e : P.isK t r = true) : ∃ ds, r.data = (if t = true then .tuple ds else .list ds) := by
  unfold P.isK at e
  split at e
  · rename_i ds ed
    subst e
    exact ⟨ds, by unfold Rv.data; rw [ed]; rfl⟩
  · split at e
    · rename_i ds ed
      cases t
      · exact ⟨ds, ed⟩
      · cases e
    · cases e
abbrev rCnt (X : Cx) (t : Bool) : V → List V → Hp → VK → Prop := fun x xs H Q => ∃ y, xs = [y] ∧ rP X.K X.w (P.cnt t) [x, y] H Q
theorem cnt_of {K : PySem.W.Frag} {w : World} {t : Bool} {F H : Hp} {x y : V} {rs : List Rv} {T : List Addr} {out : Rv} (gs : GS F H T) (h : RRs K w F H [x, y] rs T) (e : P.cnt t rs = .ok out) :
    ∃ ds d, RepD K w H x (if t = true then .tuple ds else .list ds) ∧ RepD K w H y d ∧ PyData.plainAll ds = true ∧ d.plain = true ∧ d.depth ≤ 60 ∧ out = .p (.int ((ds.countP fun z => PyData.eqv z d : Nat))) := by
  obtain ⟨a, b, T1, T2, rfl, rfl, h1, h2⟩ := h.two
  unfold P.cnt at e
  simp only at e
  split at e
  · rename_i hc
    cases e
    have hx := h1.read hc.2.1 gs.sub
    obtain ⟨ds, ed⟩ := isK_of hx hc.1
    obtain ⟨xs, z1, z2, z3, z4⟩ := okIn_of hc.2.2.2
    have : xs = ds := by
      rw [ed] at z1
      cases t <;> simp [P.seqOf] at z1 <;> exact z1.symm
    subst this
    refine ⟨xs, b.data, ed ▸ hx, h2.read hc.2.2.1 gs.sub, z2, z3, z4, ?_⟩
    rw [z1]
    rfl
  · cases e
theorem mt_Count (hr : Room k X.A) : MtR X "list.count" (rCnt X false) := by
  intro pins s σ H x xs v us Q I rx rxs h
  obtain ⟨y, rfl, F, T, rs, out, gs, hr', he, q⟩ := h
  obtain ⟨ds, d, e1, e2, z2, z3, z4, rfl⟩ := cnt_of gs hr' he
  obtain ⟨u, rfl, ry⟩ := rxs.one
  obtain ⟨bs, r2⟩ := e2.reads I _ ry
  rw [if_neg Bool.false_ne_true] at e1
  simp only [RepD] at e1
  obtain ⟨a, vs, rfl, hq, hs⟩ := e1
  cases rx
  obtain ⟨its, rv, ⟨ob, n, e, c, cn, dd⟩, hz⟩ := I.list (SqL.of hq)
  obtain ⟨as, q1⟩ := RepDs.reads I ds hs rv
  exact PySem.SeqAt.count_list_data (vs := its.toArray) ⟨ob, e, c, n, dd⟩ (by simpa using q1) r2 z2 z3 (room_in hr z4) ⟨.int _, H, I.tok _, ⟨_, rfl⟩, end_flat gs q rep_int⟩
theorem mt_CountT (hr : Room k X.A) : MtR X "tuple.count" (rCnt X true) := by
  intro pins s σ H x xs v us Q I rx rxs h
  obtain ⟨y, rfl, F, T, rs, out, gs, hr', he, q⟩ := h
  obtain ⟨ds, d, e1, e2, z2, z3, z4, rfl⟩ := cnt_of gs hr' he
  obtain ⟨u, rfl, ry⟩ := rxs.one
  obtain ⟨bs, r2⟩ := e2.reads I _ ry
  rw [if_pos rfl] at e1
  simp only [RepD] at e1
  obtain ⟨a, vs, rfl, hq, hs⟩ := e1
  cases rx
  obtain ⟨its, rv, tp, hz⟩ := I.tuple hq.sqT
  obtain ⟨as, q1⟩ := RepDs.reads I ds hs rv
  exact PySem.SeqAt.count_tuple_data (vs := its.toArray) tp (by simpa using q1) r2 z2 z3 (room_in hr z4) ⟨.int _, H, I.tok _, ⟨_, rfl⟩, end_flat gs q rep_int⟩
/-- the call of a method, the kind told by an own word -/
theorem pe_meth {Ty : V → Hp → Prop} {o e : Expr} {to te : TE} {name : Str} {apos cpos : Pos} {T id : String} {r : V → List V → Hp → VK → Prop} (pa : PlainAttrs T) (slot : Slot T name id) (hty : typeOf (.builtin id) = pure (.type "method_descriptor")) (hm : MtR X id r)
    (hk : ∀ (pins : List (Addr × Obj)) (σ : L2.St) (H : Hp) (s : Shared) (x : V) (v : Value), Inv X pins σ H s → RelV x v → Ty x H → s.TypeIs v T ∧ ∀ a, v = .ref a → ∃ ob, s.heap.get? a = some ob ∧ ob.dict = none)
    (ho : PE X o to) (ha : PE X e te) (nb : noBase o = true) (ok : okE e = true) (hline : (apos.endLine == cpos.line) = true) :
    PE X (.Call (.Attribute o name apos) [e] [] cpos) (fun σ H Q => to σ H fun x H1 => Ty x H1 ∧ te σ H1 fun y H2 => r x [y] H2 Q) := by
  refine ⟨fun pins s σ H Q I h => ?_⟩
  have hs : starEach [e] X.env = (false, eval e X.env) :: starEach [] X.env := star_ok ok
  refine wpAny_Call_method_late (base_ok nb) (by rw [hs]; rfl) hline rfl (thn (ho.run pins s σ H _ I h) fun v s1 ⟨x, H1, I1, r1, ty, q1⟩ => ?_)
  obtain ⟨h1, h2⟩ := hk pins σ H1 s1 x v I1 r1 ty
  refine ⟨T, id, pa, slot, hty, h1, h2, ?_⟩
  have hA := (pa_cons ha pa_nil hs).run cpos pins s1 σ H1 (fun xs H2 => r x xs H2 Q) I1 q1
  rw [hs] at hA ⊢
  refine Calls.callWith_builtin (by rfl) (Calls.evalArgs_plain ?_)
  exact thn hA fun us s2 ⟨vs, H2, I2, r2, q2⟩ => hm pins s2 σ H2 x vs v us Q I2 r1 r2 q2
theorem se_cnt (C : Ctx X k fs cf cs W) {t : Bool} {f : Str} {a b : Expr} {pa pb : Bool} {fa fb : EvF} {ap cp : Pos} (hf : f = "count") (hl : (ap.endLine == cp.line) = true) (nb : noBase a = true) (ok : okE b = true) (ha : SE X W pa a fa) (hb : SE X W pb b fb) :
    SE X W (pa && pb) (.Call (.Attribute a f ap) [b] [] cp) (ev2 (P.cnt t) pb (kdF (P.isK t) fa) fb) := by
  subst hf
  cases t with
  | false =>
    refine pe_imp (pe_meth (Ty := fun x H => ∃ a vs, x = .ref a ∧ H a = some (.lst vs)) F.plainAttrs_list F.slot_list_count F.type_list_count (mt_Count C.room) (fun pins σ H s x v I r ⟨a, vs, e, h⟩ => ?_) ha hb nb ok hl) fun σ H Q q => ?_
    · subst e
      exact tyV_is (x := .ref a) I r (.inl ⟨rfl, vs, SqL.of h⟩)
    · refine tE_mono (tE_kd (tE_2 calm_cnt q)) fun x H1 ⟨⟨F, T, rr, s1, h1, e1⟩, q⟩ => ⟨?_, tE_mono q fun y H2 q => ⟨y, rfl, q⟩⟩
      obtain ⟨a, vs, e, z | z⟩ := isK_ty s1 h1 e1
      · exact ⟨a, vs, e, z.2⟩
      · cases z.1
  | true =>
    refine pe_imp (pe_meth (Ty := fun x H => ∃ a vs o, x = .ref a ∧ H a = some (.frz o (.tup vs)) ∧ o.dict = none) F.plainAttrs_tuple F.slot_tuple_count F.type_tuple_count (mt_CountT C.room) (fun pins σ H s x v I r ⟨a, vs, o, e, h, hd⟩ => ?_) ha hb nb ok hl) fun σ H Q q => ?_
    · subst e
      cases r
      obtain ⟨g1, _, its, _, ⟨o2, g2, g3, _⟩⟩ := I.hok a _ h
      rw [g1] at g2
      cases g2
      exact ⟨⟨o, g1, g3⟩, fun b eb => by cases eb; exact ⟨o, g1, hd⟩⟩
    · refine tE_mono (tE_kd (tE_2 calm_cnt q)) fun x H1 ⟨⟨F, T, rr, s1, h1, e1⟩, q⟩ => ⟨?_, tE_mono q fun y H2 q => ⟨y, rfl, q⟩⟩
      obtain ⟨a, vs, e, z | z⟩ := isK_ty s1 h1 e1
      · cases z.1
      · obtain ⟨_, o, z1, z2⟩ := z
        exact ⟨a, vs, o, e, z1, z2⟩
end
end Oa

/-! Part 13: enumerate of a tuple. -/
namespace Oa
open PySem PySem.Spec PyProof.Rows L2
/-- the tuple at a, each item in a new pair -/
def IteT (K : PySem.W.Frag) (a : Addr) : It :=
  ⟨fun i H => ∃ (xs : List V) (x : V), SqT K H a xs ∧ xs[i]? = some x,
    fun i H v H' => ∃ p x, v = .ref p ∧ H p = none ∧ H' = upd H p (.tup [.int (i : Nat), x]) ∧ ∀ xs, SqT K H a xs → xs[i]? = some x,
    fun i H => ∃ xs : List V, SqT K H a xs ∧ xs.length ≤ i⟩
theorem turn_enumT {P : Program} {w : World} {K : PySem.W.Frag} {elts : List Expr} {kk : Nat} {tpos : Pos} (a e it : Addr) :
    Turn P w K (.Tuple elts kk tpos) (IteT K a) [e, it] e (fun i h => (∃ was, IsEnum h e it ((i : Nat) : Int) was) ∧ h.IsTupleIter it a i ∧ e ≠ it) where
  mem := by simp
  obj := fun i h st b hb => by
    obtain ⟨⟨was, he⟩, ⟨o, ho, hc, hd⟩, _⟩ := st
    simp only [List.mem_cons, List.not_mem_nil, or_false] at hb
    rcases hb with z | z
    · rw [z]
      exact ⟨_, he, fun v q => nomatch q⟩
    · rw [z]
      exact ⟨o, ho, fun v q => by rw [hd] at q; cases q⟩
  keep := fun i h h' st kp => let ⟨⟨was, he⟩, hi, hne⟩ := st; ⟨⟨was, kp e (by simp) _ he⟩, hi.at fun o q => kp it (by simp) o q, hne⟩
  item := by
    intro X hP hw hK hc i pins s σ H E I hf st hg
    subst hP hw hK
    obtain ⟨⟨was, he⟩, hit, hne⟩ := st
    obtain ⟨xs, x, hq, hx⟩ := hg
    obtain ⟨its, rv, tp, hz⟩ := I.tuple hq
    obtain ⟨u, hu, ru⟩ := rv.get hx
    have tp' : s.heap.IsTuple a its.toArray := tp
    have hel : e < s.heap.objs.size := Heap.lt_size he
    have hil : it < s.heap.objs.size := by obtain ⟨_, q, _⟩ := hit; exact Heap.lt_size q
    have hai : a ≠ it := fun z => by
      obtain ⟨o, ho, hcl, _⟩ := tp'
      obtain ⟨o2, ho2, hcl2, _⟩ := hit
      rw [z, ho2] at ho
      cases ho
      rw [hcl2] at hcl
      exact absurd hcl (by decide)
    have hae : e ≠ a := fun z => by
      obtain ⟨o, ho, hcl, _⟩ := tp'
      rw [← z, he] at ho
      cases ho
      exact absurd (show Value.type "enumerate" = Value.type "tuple" from hcl) (by decide)
    have D := Draws.tuple (prog := X.prog) (w := X.w) (A := X.A.in1) (I.ok.hd hc) it a hai its.toArray
    have hlt : i < its.toArray.size := by
      have := (List.getElem?_eq_some_iff.mp hu).1
      simpa using this
    refine wpAny_pyNext_enum_itemD D he ⟨hit, tp'⟩ hlt hne (by simp [hne, hae]) fun y h' tk hy ho hst' hT hsz hk => ?_
    have ey : y = u := by
      have z : its[i]? = some y := by simpa using hy
      rw [hu] at z
      cases z
      rfl
    subst ey
    refine ⟨_, rfl, wpAny_letOwnedTupleGo_enum (s := { s with heap := h', toks := tk + 1 }) ho fun h2 he2 sb => ?_⟩
    have hT2 : h2.get? s.heap.objs.size = some { cls := .type "tuple", data := .seq #[.int i tk, y] } := (sb.2 _ (Nat.ne_of_gt hel)).trans hT
    have nw : ObjOk X.prog X.w (upd H s.heap.objs.size (.tup [.int (i : Nat), x])) h2 s.heap.objs.size (.tup [.int (i : Nat), x]) :=
      ⟨by show 2 ≤ sizeLine; decide, [.int i tk, y], .cons ⟨_, rfl⟩ (.cons ru .nil), ⟨_, hT2, rfl, _, rfl⟩⟩
    have I1 : Inv X pins σ (upd H s.heap.objs.size (.tup [.int (i : Nat), x])) { s with heap := h2, toks := tk + 1 } :=
      I.turnedNew (ch := [e, it]) (fun b ob hb q => (sb.2 b (fun z => hb (by simp [z]))).trans (hk b ob (fun z => hb (by simp [z])) (fun z => hb (by simp [z])) q)) hf (Nat.le_refl _) nw
    refine ⟨.ref s.heap.objs.size, _, I1, rfl, ⟨_, x, rfl, I.hok.fresh (Nat.le_refl _), rfl, fun ys hy => by rw [I.tuple_inj hy hq]; exact hx⟩, ⟨⟨y, ?_⟩, hst'.1.at fun o q => (sb.2 it (Ne.symm hne)).trans q, hne⟩, fun b hb => ?_⟩
    · have e1 : ((i + 1 : Nat) : Int) = (i : Int) + 1 := by omega
      rw [e1]
      exact he2
    · have hlt2 : b < s.heap.objs.size := by
        have hb2 := hb
        simp only [List.mem_cons, List.not_mem_nil, or_false] at hb2
        rcases hb2 with z | z
        · rw [z]
          exact hel
        · rw [z]
          exact hil
      rw [upd_ne (Nat.ne_of_lt hlt2)]
      exact (hf b hb).1
  done := by
    intro X hP hw hK hc i pins s σ H E I hf st hg
    subst hP hw hK
    obtain ⟨⟨was, he⟩, hit, hne⟩ := st
    obtain ⟨xs, hq, hx⟩ := hg
    obtain ⟨its, rv, tp, hz⟩ := I.tuple hq
    obtain ⟨f0, f1, f2, f3, f4, f5⟩ := hf it (by simp)
    have hl := rv.length
    have hT : s.TypeIs (.ref e) "enumerate" := ⟨_, he, rfl⟩
    unfold pyNext
    refine wpAny_bind (wpAny_attempt (wpAny_callSpecial?_slot (name := Str.ofString "__next__") hT F.slot_enumerate_next (wpAny_call_entry F.slot_enumerate_next hT F.entry_enumerate_next ?_ (F.args_enumerate_next_1 _))))
    show wpAny _ _ (field (.ref e) 2 >>= _) _ _ _
    refine wpAny_bind (wpAny_field he rfl (x := .ref it) rfl (wpAny_bind (wpAny_nextOf_tuple_end (A := X.A.in1) (I.ok.hd hc) hit (show s.heap.IsTuple a its.toArray from tp) (by simp; omega) fun h' x he' hx' => ?_)))
    obtain ⟨o, ho, hcl⟩ := hx'
    exact wpAny_bind (wpAny_isInstance (T := "StopIteration") (b := true) ⟨o, ho, hcl⟩ isSubtype_stop (wpAny_pure ⟨rfl, I.turned (t' := s.toks) (fun b o hb q => he' b o hb q) f0 f1 f3 f4 f5⟩))
  self := fun A i s Q E st h => let ⟨⟨_, he⟩, _⟩ := st; wpAny_pyIter_enum he h
/-- the call with one operand -/
theorem meets_enum1 {v : Value} {o : Obj} {Hh : Heap → Prop} (B : Begins v o Hh) :
    Meets (Builtin.«enumerate.__new__» ⟨[.type "enumerate", v], []⟩) (fun _ R s => Hh s.heap ∧
      R (.ok (.ret (.ref (s.heap.push o).objs.size))) { s with heap := (s.heap.push o).push { cls := .type "enumerate", data := .fields #[.none, .bool false, .ref s.heap.objs.size, rawInt 0, .none, .none] } }) :=
  .of_wp fun prog w A R s h => by
    obtain ⟨hp, g, d, tk, os⟩ := s
    obtain ⟨h1, h⟩ := h
    have hsub := sub_enumerate
    have way : ∀ {A' : Around} {E : Value → Shared → Prop} {Q : Value → Shared → Prop}, Q (.ref hp.objs.size) ⟨hp.push o, g, d, tk, os⟩ → wpAny (model prog w) A' (pyIter v) Q E ⟨hp, g, d, tk, os⟩ :=
      fun q => B.iter prog w _ _ ⟨hp, g, d, tk, os⟩ _ h1 q
    wp_walk using way
    refine wpAny_stack_any fun st => wpAny_pure ?_
    split
    · rename_i c _ _ _ _ _
      cases (c == Value.type "enumerate")
      · wp_walk using way
        exact ⟨_, rfl, h⟩
      · wp_walk using way
        exact ⟨_, rfl, h⟩
    · wp_walk using way
      exact ⟨_, rfl, h⟩
theorem call_enumT {prog : Program} {w : World} {A : Around} {E : Value → Shared → Prop} {s : Shared} {a : Addr} {items : Array Value} {Q : Value → Shared → Prop} (hT : s.heap.IsTuple a items)
    (h : ∀ h', IsEnum h' (s.heap.objs.size + 1) s.heap.objs.size 0 .none → h'.IsTupleIter s.heap.objs.size a 0 →
      (∀ b o, s.heap.get? b = some o → h'.get? b = some o) → Q (.ref (s.heap.objs.size + 1)) { s with heap := h' }) :
    wpAny (model prog w) A (call (.type "enumerate") [.ref a]) Q E s := by
  have B := begins_tuple a items
  generalize ho : ({ cls := .type "tuple_iterator", data := .fields #[.ref a, .int 0 0] } : Obj) = o at B
  have hz : (s.heap.push o).objs.size = s.heap.objs.size + 1 := Heap.size_push ..
  have he : IsEnum ((s.heap.push o).push { cls := .type "enumerate", data := .fields #[.none, .bool false, .ref s.heap.objs.size, rawInt 0, .none, .none] }) (s.heap.objs.size + 1) s.heap.objs.size 0 .none := by
    have q := Heap.get?_push_size (s.heap.push o) (o := { cls := .type "enumerate", data := .fields #[.none, .bool false, .ref s.heap.objs.size, rawInt 0, .none, .none] }) rfl
    rw [hz] at q
    exact q
  have hi : ((s.heap.push o).push { cls := .type "enumerate", data := .fields #[.none, .bool false, .ref s.heap.objs.size, rawInt 0, .none, .none] }).IsTupleIter s.heap.objs.size a 0 :=
    ⟨o, Heap.get?_push_of_some _ (Heap.get?_push_size _ B.free), by rw [← ho], by rw [← ho]; rfl⟩
  refine callType_new F.called_enumerate (by decide) (F.typeCall_enumerate_1 _) (F.newCall_enumerate_1 _) (fun obj => F.args_object_init_2 obj _) F.entry_enumerate_new (meets_enum1 B) ⟨hT, ?_⟩
  show _ ∧ _
  rw [hz]
  exact ⟨⟨_, he, rfl⟩, h _ he hi fun b o2 x => Heap.get?_push_of_some _ (Heap.get?_push_of_some _ x)⟩
/-- a list or a tuple, numbered -/
def iEnumA (K : PySem.W.Frag) (te : TE) : TI := fun σ H R => te σ H fun x H1 => ∃ a xs, x = .ref a ∧ ((SqL K H1 a xs ∧ R (Ite K a) H1) ∨ (SqT K H1 a xs ∧ R (IteT K a) H1))
theorem pi_enumA {X : Cx} {e : Expr} {te : TE} {p pos tpos : Pos} {elts : List Expr} {kk : Nat} (hg : Gl X "enumerate") (hm : X.mg "enumerate" = none) (he : PE X e te) (hs : starEach [e] X.env = (false, eval e X.env) :: starEach [] X.env) :
    PI X (.Tuple elts kk tpos) (.Call (.Name "enumerate" p) [e] [] pos) (iEnumA X.K te) := by
  refine ⟨fun pins s σ H R I h => ?_⟩
  refine Call_ (ld_blt I hg hm boot_enumerate (PyProof.Rows.callWith_type1 (one_arg he I h (fun v s1 x H1 I1 r1 q1 => ?_) hs) hs))
  obtain ⟨a, xs, ex, q⟩ := q1
  subst ex
  cases r1
  rcases q with ⟨hq, q⟩ | ⟨hq, q⟩
  · obtain ⟨its, rv, pl, hz⟩ := I1.list hq
    refine call_enumerate_list pl.isList fun h' he hit hsz hk => wpAny_pyIter_enum he ?_
    have I2 : Inv X pins σ H1 { s1 with heap := h' } := I1.kept (t' := s1.toks) hk
    refine ⟨s1.heap.objs.size + 1, [s1.heap.objs.size + 1, s1.heap.objs.size], _, _, H1, rfl, I2, turn_enum a _ _, ⟨⟨.none, he⟩, hit, Nat.succ_ne_self _⟩, fun b hb => ?_, q⟩
    have hle : s1.heap.objs.size ≤ b := by
      simp only [List.mem_cons, List.not_mem_nil, or_false] at hb
      rcases hb with z | z
      · rw [z]
        exact Nat.le_add_right _ _
      · rw [z]
        exact Nat.le_refl _
    exact I1.fpOk hle (I1.hok.fresh hle)
  · obtain ⟨its, rv, tp, hz⟩ := I1.tuple hq
    refine call_enumT (show s1.heap.IsTuple a its.toArray from tp) fun h' he hit hk => wpAny_pyIter_enum he ?_
    have I2 : Inv X pins σ H1 { s1 with heap := h' } := I1.kept (t' := s1.toks) hk
    refine ⟨s1.heap.objs.size + 1, [s1.heap.objs.size + 1, s1.heap.objs.size], _, _, H1, rfl, I2, turn_enumT a _ _, ⟨⟨.none, he⟩, hit, Nat.succ_ne_self _⟩, fun b hb => ?_, q⟩
    have hle : s1.heap.objs.size ≤ b := by
      simp only [List.mem_cons, List.not_mem_nil, or_false] at hb
      rcases hb with z | z
      · rw [z]
        exact Nat.le_add_right _ _
      · rw [z]
        exact Nat.le_refl _
    exact I1.fpOk hle (I1.hok.fresh hle)
end Oa

/-! Part D4: dicts gone through: keys, values, pairs. -/
namespace Oa
open PySem PySem.Spec PyProof.Rows L2
theorem ens_get : ∀ {es : List DictEntry} {ns : List En} {i : Nat} {n : En}, EnsOk es ns → ns[i]? = some n → ∃ e, es[i]? = some e ∧ RelV n.k e.key ∧ RelV n.v e.val
  | [], [], _, _, _, h => by simp at h
  | [], _ :: _, _, _, h, _ => by simp only [EnsOk] at h
  | _ :: _, [], _, _, h, _ => by simp only [EnsOk] at h
  | e :: es, n :: ns, 0, m, h, g => by
    simp only [EnsOk] at h
    simp at g
    subst g
    exact ⟨e, rfl, h.1.2.1, h.1.2.2⟩
  | e :: es, n :: ns, i + 1, m, h, g => by
    simp only [EnsOk] at h
    obtain ⟨e', h1, h2⟩ := ens_get (i := i) h.2 (by simpa using g)
    exact ⟨e', by simpa using h1, h2⟩
theorem ens_len : ∀ {es : List DictEntry} {ns : List En}, EnsOk es ns → es.length = ns.length
  | [], [], _ => rfl
  | [], _ :: _, h => by simp only [EnsOk] at h
  | _ :: _, [], h => by simp only [EnsOk] at h
  | e :: es, n :: ns, h => by
    simp only [EnsOk] at h
    rw [List.length_cons, List.length_cons, ens_len h.2]
/-- the dict as the machine's rules for walks want it -/
theorem dct_raw {X : Cx} {pins : List (Addr × Obj)} {σ : L2.St} {H : Hp} {s : Shared} {a : Addr} {c : Dc} (I : Inv X pins σ H s) (h : H a = some (dctO a c)) :
    ∃ es, s.heap.DictRaw a es c.ep ∧ es.size = c.en.length ∧ (a == sysModules) = false ∧ ∀ (i : Nat) (n : En), c.en[i]? = some n → ∃ (hi : i < es.size), RelV n.k es[i].key ∧ RelV n.v es[i].val := by
  obtain ⟨o, es, g1, g2, g3, g4, g5, g6⟩ := dct_at I h
  refine ⟨es, ⟨o, g1, g2, g3⟩, by rw [← ens_len g4]; simp, g6, fun i n hn => ?_⟩
  obtain ⟨e, h1, h2, h3⟩ := ens_get g4 hn
  rw [Array.getElem?_toList] at h1
  obtain ⟨hi, h4⟩ := Array.getElem?_eq_some_iff.mp h1
  subst h4
  exact ⟨hi, h2, h3⟩
def ItK (a : Addr) (c : Dc) : It :=
  ⟨fun i H => H a = some (dctO a c) ∧ i < c.en.length, fun i H x H' => H' = H ∧ ∃ n, c.en[i]? = some n ∧ x = n.k, fun i H => H a = some (dctO a c) ∧ c.en.length ≤ i⟩
def ItV (a : Addr) (c : Dc) : It :=
  ⟨fun i H => H a = some (dctO a c) ∧ i < c.en.length, fun i H x H' => H' = H ∧ ∃ n, c.en[i]? = some n ∧ x = n.v, fun i H => H a = some (dctO a c) ∧ c.en.length ≤ i⟩
def ItI (a : Addr) (c : Dc) : It :=
  ⟨fun i H => H a = some (dctO a c) ∧ i < c.en.length, fun i H x H' => ∃ p n, c.en[i]? = some n ∧ x = .ref p ∧ H p = none ∧ H' = upd H p (.tup [n.k, n.v]), fun i H => H a = some (dctO a c) ∧ c.en.length ≤ i⟩
section
variable {P : Program} {w : World} {K : PySem.W.Frag} {tg : Expr} {a : Addr} {c : Dc}
theorem turn_dk (it : Addr) : Turn P w K tg (ItK a c) [it] it (fun i h => h.IsKeyIter it a i c.en.length c.ep) where
  mem := by simp
  obj := fun i h st b hb => by
    have e : b = it := by simpa using hb
    subst e
    obtain ⟨oi, e, c, dd⟩ := st
    exact ⟨oi, e, fun v z => by rw [dd] at z; cases z⟩
  keep := fun i h h' st k => st.at fun oi e => k it (by simp) oi e
  item := by
    intro X hP hw hK hc i pins s σ H E I hf st hg
    subst hP hw hK
    obtain ⟨hd, hi⟩ := hg
    obtain ⟨f0, f1, f2, f3, f4, f5⟩ := hf it (by simp)
    obtain ⟨es, hr, hsz, hs, ent⟩ := dct_raw I hd
    obtain ⟨hi2, r1, r2⟩ := ent i _ (List.getElem?_eq_getElem hi)
    rw [← hsz] at st
    refine wpAny_pyNext_keys_item_raw st hr hi2 fun h' st' sb => ?_
    have I1 : Inv X pins σ H { s with heap := h' } := I.turned (t' := s.toks) (fun b ob hb e => (sb.2 b hb).trans e) f0 f1 f3 f4 f5
    obtain ⟨oi, e, c1, dd⟩ := id st'
    rw [hsz] at st'
    exact ⟨_, rfl, go_of (s := { s with heap := h' }) e c1 dd (by decide) ⟨_, H, I1, r1, ⟨rfl, _, List.getElem?_eq_getElem hi, rfl⟩, st', fun b hb => (hf b hb).1⟩⟩
  done := by
    intro X hP hw hK hc i pins s σ H E I hf st hg
    subst hP hw hK
    obtain ⟨hd, hi⟩ := hg
    obtain ⟨f0, f1, f2, f3, f4, f5⟩ := hf it (by simp)
    obtain ⟨es, hr, hsz, hs, ent⟩ := dct_raw I hd
    rw [← hsz] at st
    exact wpAny_pyNext_keys_end_raw (I.ok.hd hc) st hr (by rw [hsz]; exact hi) fun h' eb => ⟨rfl, I.turned (t' := s.toks) (fun b ob hb e => eb b ob hb e) f0 f1 f3 f4 f5⟩
  self := fun A i s Q E st h => by
    refine wpAny_pyIter_slot st.typeIs F.slot_dict_keyiterator_iter (wpAny_call_entry F.slot_dict_keyiterator_iter st.typeIs F.entry_dict_keyiterator_iter ?_ (F.args_dict_keyiterator_iter_1 _))
    show wpAny _ _ (ret (.ref it)) _ _ s
    exact wpAny_pure ⟨_, rfl, "dict_keyiterator", _, st.typeIs, F.slot_dict_keyiterator_next.lookup, h⟩
theorem turn_dv (it : Addr) : Turn P w K tg (ItV a c) [it] it (fun i h => h.IsValIter it a i c.en.length c.ep) where
  mem := by simp
  obj := fun i h st b hb => by
    have e : b = it := by simpa using hb
    subst e
    obtain ⟨oi, e, c, dd⟩ := st
    exact ⟨oi, e, fun v z => by rw [dd] at z; cases z⟩
  keep := fun i h h' st k => st.at fun oi e => k it (by simp) oi e
  item := by
    intro X hP hw hK hc i pins s σ H E I hf st hg
    subst hP hw hK
    obtain ⟨hd, hi⟩ := hg
    obtain ⟨f0, f1, f2, f3, f4, f5⟩ := hf it (by simp)
    obtain ⟨es, hr, hsz, hs, ent⟩ := dct_raw I hd
    obtain ⟨hi2, r1, r2⟩ := ent i _ (List.getElem?_eq_getElem hi)
    rw [← hsz] at st
    refine wpAny_pyNext_values_item_raw st hr hi2 fun h' st' sb => ?_
    have I1 : Inv X pins σ H { s with heap := h' } := I.turned (t' := s.toks) (fun b ob hb e => (sb.2 b hb).trans e) f0 f1 f3 f4 f5
    obtain ⟨oi, e, c1, dd⟩ := id st'
    rw [hsz] at st'
    exact ⟨_, rfl, go_of (s := { s with heap := h' }) e c1 dd (by decide) ⟨_, H, I1, r2, ⟨rfl, _, List.getElem?_eq_getElem hi, rfl⟩, st', fun b hb => (hf b hb).1⟩⟩
  done := by
    intro X hP hw hK hc i pins s σ H E I hf st hg
    subst hP hw hK
    obtain ⟨hd, hi⟩ := hg
    obtain ⟨f0, f1, f2, f3, f4, f5⟩ := hf it (by simp)
    obtain ⟨es, hr, hsz, hs, ent⟩ := dct_raw I hd
    rw [← hsz] at st
    exact wpAny_pyNext_values_end_raw (I.ok.hd hc) st hr (by rw [hsz]; exact hi) fun h' eb => ⟨rfl, I.turned (t' := s.toks) (fun b ob hb e => eb b ob hb e) f0 f1 f3 f4 f5⟩
  self := fun A i s Q E st h => wpAny_pyIter_valiter st h
theorem turn_di {elts : List Expr} {kk : Nat} {tpos : Pos} (it : Addr) : Turn P w K (.Tuple elts kk tpos) (ItI a c) [it] it (fun i h => ∃ ok ov, IsItemIter h it a i c.en.length c.ep ok ov) where
  mem := by simp
  obj := fun i h st b hb => by
    have e : b = it := by simpa using hb
    subst e
    obtain ⟨ok, ov, e⟩ := st
    exact ⟨_, e, fun v z => nomatch z⟩
  keep := fun i h h' st k => let ⟨ok, ov, e⟩ := st; ⟨ok, ov, k it (by simp) _ e⟩
  item := by
    intro X hP hw hK hc i pins s σ H E I hf st hg
    subst hP hw hK
    obtain ⟨hd, hi⟩ := hg
    obtain ⟨es, hr, hsz, hs, ent⟩ := dct_raw I hd
    obtain ⟨hi2, r1, r2⟩ := ent i _ (List.getElem?_eq_getElem hi)
    obtain ⟨ok, ov, he⟩ := st
    rw [← hsz] at he
    have hlt : it < s.heap.objs.size := Heap.lt_size he
    refine wpAny_pyNext_items_item_raw he hr hi2 fun h' ho hT hz hk => ?_
    refine ⟨_, rfl, wpAny_letOwnedTupleGo_items (s := { s with heap := h' }) ho fun h'' he' sb => ?_⟩
    have hT2 : h''.get? s.heap.objs.size = some { cls := .type "tuple", data := .seq #[es[i].key, es[i].val] } := (sb.2 _ (Nat.ne_of_gt hlt)).trans hT
    have new : ObjOk X.prog X.w (upd H s.heap.objs.size (.tup [c.en[i].k, c.en[i].v])) h'' s.heap.objs.size (.tup [c.en[i].k, c.en[i].v]) :=
      ⟨by show 2 ≤ sizeLine; decide, [es[i].key, es[i].val], .cons r1 (.cons r2 .nil), ⟨_, hT2, rfl, _, rfl⟩⟩
    have I1 : Inv X pins σ (upd H s.heap.objs.size (.tup [c.en[i].k, c.en[i].v])) { s with heap := h'' } :=
      I.turnedNew (t' := s.toks) (ch := [it]) (fun b ob hb e => (sb.2 b (by simpa using hb)).trans (hk b ob (by simpa using hb) e)) hf (Nat.le_refl _) new
    refine ⟨.ref s.heap.objs.size, _, I1, rfl, ⟨_, c.en[i], List.getElem?_eq_getElem hi, rfl, I.hok.fresh (Nat.le_refl _), rfl⟩, ⟨es[i].key, es[i].val, ?_⟩, fun b hb => ?_⟩
    · rw [← hsz]; exact he'
    · have e : b = it := by simpa using hb
      rw [e, upd_ne (Nat.ne_of_lt hlt)]
      exact (hf it (by simp)).1
  done := by
    intro X hP hw hK hc i pins s σ H E I hf st hg
    subst hP hw hK
    obtain ⟨hd, hi⟩ := hg
    obtain ⟨f0, f1, f2, f3, f4, f5⟩ := hf it (by simp)
    obtain ⟨es, hr, hsz, hs, ent⟩ := dct_raw I hd
    obtain ⟨ok, ov, he⟩ := st
    rw [← hsz] at he
    exact wpAny_pyNext_items_end_raw (I.ok.hd hc) he hr (by rw [hsz]; exact hi) fun h' eb => ⟨rfl, I.turned (t' := s.toks) (fun b ob hb e => eb b ob hb e) f0 f1 f3 f4 f5⟩
  self := fun A i s Q E st h => let ⟨_, _, e⟩ := st; PySem.W.kcp_self e h
end
/-! ### sources -/
def iDV (te : TE) : TI := fun σ H R => te σ H fun x H1 => ∃ a c, x = .ref a ∧ H1 a = some (dctO a c) ∧ R (ItV a c) H1
def iDI (te : TE) : TI := fun σ H R => te σ H fun x H1 => ∃ a c, x = .ref a ∧ H1 a = some (dctO a c) ∧ R (ItI a c) H1
section
variable {X : Cx} {tg e : Expr} {te : TE} {apos cpos : Pos}
theorem dct_ty {pins : List (Addr × Obj)} {σ : L2.St} {H : Hp} {s : Shared} {a : Addr} {c : Dc} (I : Inv X pins σ H s) (h : H a = some (dctO a c)) : s.TypeIs (.ref a) "dict" ∧ ∀ b, Value.ref a = .ref b → ∃ ob, s.heap.get? b = some ob ∧ ob.dict = none := by
  obtain ⟨o, es, g1, g2, _⟩ := dct_at I h
  exact ⟨⟨o, g1, g2.1⟩, fun b eb => by cases eb; exact ⟨o, g1, g2.2.1⟩⟩
theorem pi_dv (he : PE X e te) (hbase : attributeBase e "values" X.env (eval e X.env) = eval e X.env) (hline : (apos.endLine == cpos.line) = true) : PI X tg (.Call (.Attribute e "values" apos) [] [] cpos) (iDV te) := by
  refine ⟨fun pins s σ H R I h => ?_⟩
  refine wpAny_Call_method (T := "dict") (id := "dict.values") hbase rfl hline F.plainAttrs_dict F.slot_dict_values F.type_dict_values (thn (he.run pins s σ H _ I h) fun u s1 ⟨x, H1, I1, rx, d, c, ex, hd, q⟩ => ?_)
  subst ex
  obtain rfl : u = Value.ref d := rx
  obtain ⟨es, hr, hsz, hs, ent⟩ := dct_raw I1 hd
  obtain ⟨t1, t2⟩ := dct_ty I1 hd
  refine ⟨t1, t2, ?_⟩
  have I2 : Inv X pins σ H1 { s1 with heap := s1.heap.push { cls := .type "dict_values", data := .fields #[.ref d] } } := I1.kept (t' := s1.toks) fun b ob q => Heap.get?_push_of_some _ q
  have fin : wpAny (model X.prog X.w) X.A (pyIter (.ref s1.heap.objs.size)) (PIE X pins σ tg R) X.xe { s1 with heap := s1.heap.push { cls := .type "dict_values", data := .fields #[.ref d] } } := by
    refine wpAny_pyIter_values_raw (d := d) ⟨_, Heap.get?_push_size _ rfl, rfl, rfl⟩ (hr.push _) (pi_one (tk := s1.toks) I2 _ (turn_dv _) ⟨_, Heap.get?_push_size _ rfl, rfl, ?_⟩ q)
    rw [hsz] <;> rfl
  show wpAny _ _ (PySem.callWith cpos (.builtin "dict.values") [.ref d] [] []) _ X.xe s1
  exact method_meetsIn F.slot_dict_values F.entry_dict_values rfl (PySem.evalArgs_none ⟨rfl, t1, F.args_dict_values_1 _, _, meets_dict_values_raw d hs, ⟨_, _, hr⟩, fin⟩)
theorem pi_di {elts : List Expr} {kk : Nat} {tpos : Pos} (he : PE X e te) (hbase : attributeBase e "items" X.env (eval e X.env) = eval e X.env) (hline : (apos.endLine == cpos.line) = true) : PI X (.Tuple elts kk tpos) (.Call (.Attribute e "items" apos) [] [] cpos) (iDI te) := by
  refine ⟨fun pins s σ H R I h => ?_⟩
  refine wpAny_Call_method (T := "dict") (id := "dict.items") hbase rfl hline F.plainAttrs_dict F.slot_dict_items F.type_dict_items (thn (he.run pins s σ H _ I h) fun u s1 ⟨x, H1, I1, rx, d, c, ex, hd, q⟩ => ?_)
  subst ex
  obtain rfl : u = Value.ref d := rx
  obtain ⟨es, hr, hsz, hs, ent⟩ := dct_raw I1 hd
  obtain ⟨t1, t2⟩ := dct_ty I1 hd
  refine ⟨t1, t2, ?_⟩
  have I2 : Inv X pins σ H1 { s1 with heap := s1.heap.push { cls := .type "dict_items", data := .fields #[.ref d] } } := I1.kept (t' := s1.toks) fun b ob q => Heap.get?_push_of_some _ q
  have fin : wpAny (model X.prog X.w) X.A (pyIter (.ref s1.heap.objs.size)) (PIE X pins σ (.Tuple elts kk tpos) R) X.xe { s1 with heap := s1.heap.push { cls := .type "dict_items", data := .fields #[.ref d] } } := by
    refine wpAny_pyIter_items_raw (d := d) ⟨_, Heap.get?_push_size _ rfl, rfl, rfl⟩ (hr.push _) (pi_one (tk := s1.toks) I2 _ (turn_di _) ⟨.none, .none, ?_⟩ q)
    rw [← hsz]
    exact Heap.get?_push_size _ rfl
  show wpAny _ _ (PySem.callWith cpos (.builtin "dict.items") [.ref d] [] []) _ X.xe s1
  exact method_meetsIn F.slot_dict_items F.entry_dict_items rfl (PySem.evalArgs_none ⟨rfl, t1, F.args_dict_items_1 _, _, meets_dict_items_raw d hs, ⟨_, _, hr⟩, fin⟩)
end
end Oa

/-! Part 14: what is gone through. -/
namespace Oa
open PySem PySem.Spec PyProof.Rows L2
/-- the iterator J gives just ds, as long as G stands -/
structure ItOk (K : PySem.W.Frag) (w : World) (J : It) (ds : List D) (F1 G : Hp) : Prop where
  go : ∀ i H, Same G H → i < ds.length → J.go i H
  stop : ∀ i H, Same G H → ds.length ≤ i → J.stop i H
  yld : ∀ i H x H' F d, Same G H → Same F1 F → Same F H → J.yld i H x H' → ds[i]? = some d → ∃ F', Stp [] F H [] F' H' ∧ Same F' H' ∧ Same H H' ∧ RepD K w F' x d
section
variable (K : PySem.W.Frag) (w : World) (mg : Str → Option Value) (W : WX)
def ItP (pu pe : Bool) (F H : Hp) (A : List Addr) (σ : L2.St) (ds : List D) (m' : Sl) (J : It) (H' : Hp) : Prop :=
  ∃ F' A', RS K w F' H' σ m' A' ∧ GS F' H' A' ∧ Stp A F H A' F' H' ∧ (pu = true → Same H H') ∧ ItOk K w J ds F' (if pe = true then H' else F')
def tI (pu pe : Bool) (f : Sl → Res (List D × Sl)) : TI := fun σ H R => ∃ m F A, RS K w F H σ m A ∧ GS F H A ∧ match f m with
  | .ok (ds, m') => ∀ J H', ItP K w pu pe F H A σ ds m' J H' → R J H'
  | .er c x => ∀ cls d H', ErP mg A H c x cls d H' → W cls d σ H'
  | .bad => False
end
theorem pi_imp {X : Cx} {tg iter : Expr} {t t' : TI} (h : PI X tg iter t) (i : ∀ σ H R, t' σ H R → t σ H R) : PI X tg iter t' := ⟨fun pins s σ H R I q => h.run pins s σ H R I (i σ H R q)⟩
/-- a list or a tuple, a dict's keys -/
def iSeq (K : PySem.W.Frag) (te : TE) : TI := fun σ H R => te σ H fun x H1 => ∃ a, x = .ref a ∧ ((∃ xs, SqL K H1 a xs ∧ R (Itl K a) H1) ∨ (∃ xs, SqT K H1 a xs ∧ R (Itt K a) H1) ∨ ∃ c, H1 a = some (dctO a c) ∧ R (ItK a c) H1)
theorem pi_seq {X : Cx} {tg l : Expr} {tl : TE} (hl : PE X l tl) : PI X tg l (iSeq X.K tl) := by
  refine ⟨fun pins s σ H R I h => ?_⟩
  refine thn (hl.run pins s σ H _ I h) fun v s1 ⟨x, H1, I1, r1, a, e, q1⟩ => ?_
  subst e
  cases r1
  rcases q1 with ⟨xs, hq, q⟩ | ⟨xs, hq, q⟩ | ⟨c, hq, q⟩
  · obtain ⟨its, rv, p, hz⟩ := I1.list hq
    exact wpAny_pyIter_list p.isList (pi_one (tk := s1.toks) I1 _ (turn_list a _) ⟨_, Heap.get?_push_size _ rfl, rfl, rfl⟩ q)
  · obtain ⟨its, rv, p, hz⟩ := I1.tuple hq
    exact wpAny_pyIter_tuple (show s1.heap.IsTuple a its.toArray from p) (pi_one (tk := s1.toks) I1 _ (turn_tuple a _) ⟨_, Heap.get?_push_size _ rfl, rfl, rfl⟩ q)
  · obtain ⟨es, hr, hsz, hs, ent⟩ := dct_raw I1 hq
    refine wpAny_pyIter_dict_raw hs hr (pi_one (tk := s1.toks) I1 _ (turn_dk _) ⟨_, Heap.get?_push_size _ rfl, rfl, ?_⟩ q)
    rw [hsz] <;> rfl
section
variable {K : PySem.W.Frag} {w : World} {mg : Str → Option Value} {W : WX}
theorem stp_id {F H : Hp} : Stp [] F H [] F H := Stp.refl
/-- over a list that stands -/
theorem itl_ok {F1 G : Hp} {a : Addr} {vs : List V} {ds : List D} (h : G a = some (.lst vs)) (r : RepDs K w F1 vs ds) : ItOk K w (Itl K a) ds F1 G where
  go := fun i H s hi => by
    obtain ⟨x, hx, _⟩ := r.get (List.getElem?_eq_getElem hi)
    exact ⟨vs, x, SqL.of (s _ _ h), hx⟩
  stop := fun i H s hi => ⟨vs, SqL.of (s _ _ h), by rw [r.length]; exact hi⟩
  yld := fun i H x H' F d s f sf y e => by
    obtain ⟨rfl, y⟩ := y
    obtain ⟨z, hz, rz⟩ := r.get e
    have := y vs (SqL.of (s _ _ h))
    rw [hz] at this
    cases this
    exact ⟨F, stp_id, sf, Same.refl _, rz.mono f⟩
theorem itt_ok {F1 G : Hp} {a : Addr} {vs : List V} {ds : List D} (h : TupAt K G a vs) (r : RepDs K w F1 vs ds) : ItOk K w (Itt K a) ds F1 G where
  go := fun i H s hi => by
    obtain ⟨x, hx, _⟩ := r.get (List.getElem?_eq_getElem hi)
    exact ⟨vs, x, (Same.tupAt s h).sqT, hx⟩
  stop := fun i H s hi => ⟨vs, (Same.tupAt s h).sqT, by rw [r.length]; exact hi⟩
  yld := fun i H x H' F d s f sf y e => by
    obtain ⟨rfl, y⟩ := y
    obtain ⟨z, hz, rz⟩ := r.get e
    have := y vs (Same.tupAt s h).sqT
    rw [hz] at this
    cases this
    exact ⟨F, stp_id, sf, Same.refl _, rz.mono f⟩
theorem itr_ok {F1 G : Hp} {lo : Int} {n : Nat} : ItOk K w (Itr lo n) ((List.range n).map fun i => .int (lo + (i : Nat))) F1 G where
  go := fun i H s hi => by
    show i < n
    simpa using hi
  stop := fun i H s hi => by
    show n ≤ i
    simpa using hi
  yld := fun i H x H' F d s f sf y e => by
    obtain ⟨rfl, rfl⟩ := y
    simp only [List.getElem?_map, Option.map_eq_some_iff] at e
    obtain ⟨j, hj, rfl⟩ := e
    obtain ⟨h1, h2⟩ := List.getElem?_eq_some_iff.mp hj
    rw [List.getElem_range] at h2
    subst h2
    exact ⟨F, stp_id, sf, Same.refl _, by simp only [RepD]⟩
theorem itc_ok {F1 G : Hp} {lo : Int} {n : Nat} : ItOk K w (Itc lo (-1) n) ((List.range n).map fun i => .int (lo - (i : Nat))) F1 G where
  go := fun i H s hi => by
    show i < n
    simpa using hi
  stop := fun i H s hi => by
    show n ≤ i
    simpa using hi
  yld := fun i H x H' F d s f sf y e => by
    obtain ⟨rfl, rfl⟩ := y
    simp only [List.getElem?_map, Option.map_eq_some_iff] at e
    obtain ⟨j, hj, rfl⟩ := e
    obtain ⟨h1, h2⟩ := List.getElem?_eq_some_iff.mp hj
    rw [List.getElem_range] at h2
    subst h2
    refine ⟨F, stp_id, sf, Same.refl _, ?_⟩
    simp only [RepD]
    congr 1
    omega
/-- a new pair is laid -/
theorem pair_laid {F H : Hp} {p : Addr} {x y : V} {d e : D} (sf : Same F H) (hp : H p = none) (rx : RepD K w F x d) (ry : RepD K w F y e) :
    ∃ F', Stp [] F H [] F' (upd H p (.tup [x, y])) ∧ Same F' (upd H p (.tup [x, y])) ∧ Same H (upd H p (.tup [x, y])) ∧ RepD K w F' (.ref p) (.tuple [d, e]) := by
  have fp : F p = none := sf.free hp
  have sF : Same F (upd F p (.tup [x, y])) := same_new fp
  refine ⟨upd F p (.tup [x, y]), ⟨sF, fun a o h _ => same_new hp a o h, fun a h => (by cases h), fun a o h => ?_⟩, fun a o h => ?_, same_new hp, ?_⟩
  · by_cases ha : a = p
    · exact .inr (.inr (.inl (ha ▸ hp)))
    · rw [upd_ne ha] at h
      exact .inl h
  · by_cases ha : a = p
    · subst ha
      rw [upd_same] at h ⊢
      exact h
    · rw [upd_ne ha] at h ⊢
      exact sf a o h
  · simp only [RepD]
    refine ⟨p, [x, y], rfl, .inl ⟨_, upd_same, rfl⟩, ?_⟩
    simp only [RepDs]
    exact ⟨rx.mono sF, ry.mono sF, trivial⟩
theorem enum_get {ds : List D} {i : Nat} {d : D} (e : (ds.zipIdx.map fun p => (.tuple [.int (p.2 : Nat), p.1] : D))[i]? = some d) : ∃ d0, ds[i]? = some d0 ∧ d = .tuple [.int (i : Nat), d0] := by
  simp only [List.getElem?_map, Option.map_eq_some_iff, List.getElem?_zipIdx] at e
  obtain ⟨p, ⟨q, h1, rfl⟩, rfl⟩ := e
  exact ⟨q, h1, by simp⟩
theorem ite_ok {F1 G : Hp} {a : Addr} {vs : List V} {ds : List D} (h : G a = some (.lst vs)) (r : RepDs K w F1 vs ds) : ItOk K w (Ite K a) (ds.zipIdx.map fun p => .tuple [.int (p.2 : Nat), p.1]) F1 G where
  go := fun i H s hi => by
    obtain ⟨x, hx, _⟩ := r.get (List.getElem?_eq_getElem (show i < ds.length by simpa using hi))
    exact ⟨vs, x, SqL.of (s _ _ h), hx⟩
  stop := fun i H s hi => ⟨vs, SqL.of (s _ _ h), by rw [r.length]; simpa using hi⟩
  yld := fun i H x H' F d s f sf y e => by
    obtain ⟨p, u, rfl, hp, rfl, y⟩ := y
    obtain ⟨d0, e0, rfl⟩ := enum_get e
    obtain ⟨z, hz, rz⟩ := r.get e0
    have := y vs (SqL.of (s _ _ h))
    rw [hz] at this
    cases this
    exact pair_laid sf hp (by simp only [RepD]) (rz.mono f)
theorem iteT_ok {F1 G : Hp} {a : Addr} {vs : List V} {ds : List D} (h : TupAt K G a vs) (r : RepDs K w F1 vs ds) : ItOk K w (IteT K a) (ds.zipIdx.map fun p => .tuple [.int (p.2 : Nat), p.1]) F1 G where
  go := fun i H s hi => by
    obtain ⟨x, hx, _⟩ := r.get (List.getElem?_eq_getElem (show i < ds.length by simpa using hi))
    exact ⟨vs, x, (Same.tupAt s h).sqT, hx⟩
  stop := fun i H s hi => ⟨vs, (Same.tupAt s h).sqT, by rw [r.length]; simpa using hi⟩
  yld := fun i H x H' F d s f sf y e => by
    obtain ⟨p, u, rfl, hp, rfl, y⟩ := y
    obtain ⟨d0, e0, rfl⟩ := enum_get e
    obtain ⟨z, hz, rz⟩ := r.get e0
    have := y vs (Same.tupAt s h).sqT
    rw [hz] at this
    cases this
    exact pair_laid sf hp (by simp only [RepD]) (rz.mono f)
theorem zip_get {ds es : List D} {i : Nat} {d : D} (e : ((ds.zip es).map fun p => (.tuple [p.1, p.2] : D))[i]? = some d) : ∃ d0 e0, ds[i]? = some d0 ∧ es[i]? = some e0 ∧ d = .tuple [d0, e0] := by
  simp only [List.getElem?_map, Option.map_eq_some_iff, List.getElem?_zip_eq_some] at e
  obtain ⟨⟨p, q⟩, ⟨h1, h2⟩, rfl⟩ := e
  exact ⟨p, q, h1, h2, rfl⟩
theorem itz_ok {F1 G : Hp} {a b : Addr} {vs us : List V} {ds es : List D} (h : G a = some (.lst vs)) (r : RepDs K w F1 vs ds) (h' : G b = some (.lst us)) (r' : RepDs K w F1 us es) : ItOk K w (Itz K a b) ((ds.zip es).map fun p => .tuple [p.1, p.2]) F1 G where
  go := fun i H s hi => by
    simp only [List.length_map, List.length_zip] at hi
    obtain ⟨x, hx, _⟩ := r.get (List.getElem?_eq_getElem (show i < ds.length by omega))
    obtain ⟨y, hy, _⟩ := r'.get (List.getElem?_eq_getElem (show i < es.length by omega))
    exact ⟨vs, us, x, y, SqL.of (s _ _ h), SqL.of (s _ _ h'), hx, hy⟩
  stop := fun i H s hi => by
    simp only [List.length_map, List.length_zip] at hi
    refine ⟨vs, us, SqL.of (s _ _ h), SqL.of (s _ _ h'), ?_⟩
    rw [r.length, r'.length]
    omega
  yld := fun i H x H' F d s f sf y e => by
    obtain ⟨p, u, v, rfl, hp, rfl, y1, y2⟩ := y
    obtain ⟨d0, e0, q1, q2, rfl⟩ := zip_get e
    obtain ⟨z, hz, rz⟩ := r.get q1
    obtain ⟨z', hz', rz'⟩ := r'.get q2
    have k1 := y1 vs (SqL.of (s _ _ h))
    have k2 := y2 us (SqL.of (s _ _ h'))
    rw [hz] at k1
    rw [hz'] at k2
    cases k1
    cases k2
    exact pair_laid sf hp (rz.mono f) (rz'.mono f)
theorem itzT_ok {F1 G : Hp} {a b : Addr} {vs us : List V} {ds es : List D} (h : TupAt K G a vs) (r : RepDs K w F1 vs ds) (h' : TupAt K G b us) (r' : RepDs K w F1 us es) : ItOk K w (RZ.ItzT K a b) ((ds.zip es).map fun p => .tuple [p.1, p.2]) F1 G where
  go := fun i H s hi => by
    simp only [List.length_map, List.length_zip] at hi
    obtain ⟨x, hx, _⟩ := r.get (List.getElem?_eq_getElem (show i < ds.length by omega))
    obtain ⟨y, hy, _⟩ := r'.get (List.getElem?_eq_getElem (show i < es.length by omega))
    exact ⟨vs, us, x, y, (Same.tupAt s h).sqT, (Same.tupAt s h').sqT, hx, hy⟩
  stop := fun i H s hi => by
    simp only [List.length_map, List.length_zip] at hi
    refine ⟨vs, us, (Same.tupAt s h).sqT, (Same.tupAt s h').sqT, ?_⟩
    rw [r.length, r'.length]
    omega
  yld := fun i H x H' F d s f sf y e => by
    obtain ⟨p, u, v, rfl, hp, rfl, y1, y2⟩ := y
    obtain ⟨d0, e0, q1, q2, rfl⟩ := zip_get e
    obtain ⟨z, hz, rz⟩ := r.get q1
    obtain ⟨z', hz', rz'⟩ := r'.get q2
    have k1 := y1 vs (Same.tupAt s h).sqT
    have k2 := y2 us (Same.tupAt s h').sqT
    rw [hz] at k1
    rw [hz'] at k2
    cases k1
    cases k2
    exact pair_laid sf hp (rz.mono f) (rz'.mono f)
theorem repks_get {F : Hp} : ∀ {ns : List En} {kvs : List (D × D)} {i : Nat} {n : En}, RepKs K w F ns kvs → ns[i]? = some n → ∃ p, kvs[i]? = some p ∧ RepD K w F n.k p.1 ∧ RepD K w F n.v p.2
  | [], _, _, _, _, e => by simp at e
  | _ :: _, [], _, _, h, _ => by simp only [RepKs] at h
  | n :: ns, (a, b) :: kvs, 0, m, h, e => by
    simp only [RepKs] at h
    simp at e
    subst e
    exact ⟨(a, b), rfl, h.1.2.1, h.1.2.2⟩
  | n :: ns, (a, b) :: kvs, i + 1, m, h, e => by
    simp only [RepKs] at h
    obtain ⟨p, h1, h2⟩ := repks_get (i := i) h.2 (by simpa using e)
    exact ⟨p, by simpa using h1, h2⟩
theorem repks_count {F : Hp} : ∀ {ns : List En} {kvs : List (D × D)}, RepKs K w F ns kvs → ns.length = kvs.length
  | [], [], _ => rfl
  | [], _ :: _, h => by simp only [RepKs] at h
  | _ :: _, [], h => by simp only [RepKs] at h
  | n :: ns, (a, b) :: r, h => by
    simp only [RepKs] at h
    rw [List.length_cons, List.length_cons, repks_count h.2]
theorem itk_ok {F1 G : Hp} {a : Addr} {c : Dc} {kvs : List (D × D)} (h : G a = some (dctO a c)) (r : RepKs K w F1 c.en kvs) : ItOk K w (ItK a c) (kvs.map (·.1)) F1 G where
  go := fun i H s hi => ⟨s _ _ h, by rw [repks_count r]; simpa using hi⟩
  stop := fun i H s hi => ⟨s _ _ h, by rw [repks_count r]; simpa using hi⟩
  yld := fun i H x H' F d s f sf y e => by
    obtain ⟨rfl, n, hn, rfl⟩ := y
    obtain ⟨p, hp, r1, r2⟩ := repks_get r hn
    simp only [List.getElem?_map, hp, Option.map_some, Option.some.injEq] at e
    subst e
    exact ⟨F, stp_id, sf, Same.refl _, r1.mono f⟩
theorem itv_ok {F1 G : Hp} {a : Addr} {c : Dc} {kvs : List (D × D)} (h : G a = some (dctO a c)) (r : RepKs K w F1 c.en kvs) : ItOk K w (ItV a c) (kvs.map (·.2)) F1 G where
  go := fun i H s hi => ⟨s _ _ h, by rw [repks_count r]; simpa using hi⟩
  stop := fun i H s hi => ⟨s _ _ h, by rw [repks_count r]; simpa using hi⟩
  yld := fun i H x H' F d s f sf y e => by
    obtain ⟨rfl, n, hn, rfl⟩ := y
    obtain ⟨p, hp, r1, r2⟩ := repks_get r hn
    simp only [List.getElem?_map, hp, Option.map_some, Option.some.injEq] at e
    subst e
    exact ⟨F, stp_id, sf, Same.refl _, r2.mono f⟩
theorem iti_ok {F1 G : Hp} {a : Addr} {c : Dc} {kvs : List (D × D)} (h : G a = some (dctO a c)) (r : RepKs K w F1 c.en kvs) : ItOk K w (ItI a c) (kvs.map fun p => .tuple [p.1, p.2]) F1 G where
  go := fun i H s hi => ⟨s _ _ h, by rw [repks_count r]; simpa using hi⟩
  stop := fun i H s hi => ⟨s _ _ h, by rw [repks_count r]; simpa using hi⟩
  yld := fun i H x H' F d s f sf y e => by
    obtain ⟨p, n, hn, rfl, hp, rfl⟩ := y
    obtain ⟨q, hq, r1, r2⟩ := repks_get r hn
    simp only [List.getElem?_map, hq, Option.map_some, Option.some.injEq] at e
    subst e
    exact pair_laid sf hp (r1.mono f) (r2.mono f)
theorem dctF_of {pe : Bool} {F H : Hp} {x : V} {r : Rv} {T T' : List Addr} {kvs : List (D × D)} (s : Same F H) (h : RR K w F H x r T) (hT : ∀ a ∈ T, a ∈ T') (e : dctF pe r = some kvs) :
    ∃ a c, x = .ref a ∧ RepKs K w (frz F H T') c.en kvs ∧ (if pe = true then H else frz F H T') a = some (dctO a c) := by
  have sg2 : Same (frz F H T') (if pe = true then H else frz F H T') := by
    cases pe
    · exact Same.refl _
    · exact frz_below s
  cases r with
  | o k =>
    unfold dctF at e
    simp only at e
    split at e
    · rename_i hf
      split at e
      · rename_i kvs' ek
        cases e
        have q := RM.frz h hf s
        rw [ek] at q
        have q2 := q.mono (frz_mono s hT)
        simp only [RepD] at q2
        obtain ⟨a, c, h1, h2, _, h4⟩ := q2
        exact ⟨a, c, h1, h4, sg2 _ _ h2⟩
      · cases e
    · cases e
  | b k =>
    cases k with
    | m ks =>
      unfold dctF at e
      simp only at e
      split at e
      · rename_i ep
        cases e
        obtain ⟨_, B, hB⟩ := h
        simp only [RM] at hB
        obtain ⟨a, c, h1, h2, _, h4, _⟩ := hB
        refine ⟨a, c, h1, h4.mono frz_sub, ?_⟩
        rw [if_pos ep]
        exact h2
      · cases e
    | _ => simp [dctF] at e
theorem items_data {k : M} {t : Bool} {ds : List D} (h : k.items = some (t, ds)) : k.fine = true ∧ k.data = if t = true then .tuple ds else .list ds := by
  cases k with
  | d y =>
    cases y with
    | list es => simp only [M.items, Option.some.injEq, Prod.mk.injEq] at h; obtain ⟨rfl, rfl⟩ := h; exact ⟨rfl, rfl⟩
    | tuple es => simp only [M.items, Option.some.injEq, Prod.mk.injEq] at h; obtain ⟨rfl, rfl⟩ := h; exact ⟨rfl, rfl⟩
    | _ => simp [M.items] at h
  | v es => simp only [M.items, Option.some.injEq, Prod.mk.injEq] at h; obtain ⟨rfl, rfl⟩ := h; exact ⟨rfl, rfl⟩
  | t es => simp only [M.items, Option.some.injEq, Prod.mk.injEq] at h; obtain ⟨rfl, rfl⟩ := h; exact ⟨rfl, rfl⟩
  | _ => simp [M.items] at h
theorem kd_data {d : D} {t : Bool} {ds : List D} (h : kdOf d = some (t, ds)) : d = if t = true then .tuple ds else .list ds := by
  cases d with
  | list es => simp only [kdOf, Option.some.injEq, Prod.mk.injEq] at h; obtain ⟨rfl, rfl⟩ := h; rfl
  | tuple es => simp only [kdOf, Option.some.injEq, Prod.mk.injEq] at h; obtain ⟨rfl, rfl⟩ := h; rfl
  | _ => simp [kdOf] at h
/-- a source that is frozen -/
theorem rep_src {F : Hp} {x : V} {t : Bool} {ds : List D} (h : RepD K w F x (if t = true then .tuple ds else .list ds)) : ∃ a vs, x = .ref a ∧ RepDs K w F vs ds ∧ ((t = false ∧ F a = some (.lst vs)) ∨ (t = true ∧ TupAt K F a vs)) := by
  cases t with
  | false =>
    simp only [Bool.false_eq_true, if_false, RepD] at h
    obtain ⟨a, vs, h1, h2, h3⟩ := h
    exact ⟨a, vs, h1, h3, .inl ⟨rfl, h2⟩⟩
  | true =>
    simp only [if_true, RepD] at h
    obtain ⟨a, vs, h1, h2, h3⟩ := h
    exact ⟨a, vs, h1, h3, .inr ⟨rfl, h2⟩⟩
theorem src_of {pe : Bool} {F H : Hp} {x : V} {r : Rv} {T T' : List Addr} {t : Bool} {ds : List D} (s : Same F H) (h : RR K w F H x r T) (hT : ∀ a ∈ T, a ∈ T') (e : srcF pe r = .ok (t, ds)) :
    ∃ a vs, x = .ref a ∧ RepDs K w (frz F H T') vs ds ∧ ((t = false ∧ (if pe = true then H else frz F H T') a = some (.lst vs)) ∨ (t = true ∧ TupAt K (if pe = true then H else frz F H T') a vs)) := by
  have up : ∀ {G : Hp}, Same G (frz F H T') → RepD K w G x (if t = true then .tuple ds else .list ds) → ∃ a vs, x = .ref a ∧ RepDs K w (frz F H T') vs ds ∧ ((t = false ∧ (if pe = true then H else frz F H T') a = some (.lst vs)) ∨ (t = true ∧ TupAt K (if pe = true then H else frz F H T') a vs)) := fun {G} sg q => by
    have sg2 : Same (frz F H T') (if pe = true then H else frz F H T') := by
      cases pe
      · exact Same.refl _
      · exact frz_below s
    obtain ⟨a, vs, h1, h2, h3⟩ := rep_src (q.mono sg)
    refine ⟨a, vs, h1, h2, ?_⟩
    rcases h3 with h3 | h3
    · exact .inl ⟨h3.1, sg2 _ _ h3.2⟩
    · exact .inr ⟨h3.1, Same.tupAt sg2 h3.2⟩
  cases r with
  | o k =>
    unfold srcF at e
    simp only at e
    split at e
    · rename_i hf
      cases ek : kdOf k.data with
      | none => rw [ek] at e; cases e
      | some p =>
        rw [ek] at e
        cases e
        have q := RM.frz h hf s
        rw [kd_data ek] at q
        exact up (frz_mono s hT) q
    · cases e
  | b k =>
    unfold srcF at e
    simp only at e
    cases ei : k.items with
    | none => rw [ei] at e; cases e
    | some p =>
      obtain ⟨t0, ds0⟩ := p
      rw [ei] at e
      simp only at e
      obtain ⟨hf, hd⟩ := items_data ei
      obtain ⟨_, B, hB⟩ := h
      have main : pe = true → t0 = t ∧ ds0 = ds → ∃ a vs, x = .ref a ∧ RepDs K w (frz F H T') vs ds ∧ ((t = false ∧ (if pe = true then H else frz F H T') a = some (.lst vs)) ∨ (t = true ∧ TupAt K (if pe = true then H else frz F H T') a vs)) := fun ep z => by
        obtain ⟨rfl, rfl⟩ := z
        rw [if_pos ep]
        cases t0 with
        | false =>
          obtain ⟨a, vs, h1, h2, h3⟩ := RR.lst (r := .b k) (T := []) ⟨rfl, B, hB⟩ s ei
          exact ⟨a, vs, h1, h3.mono frz_sub, .inl ⟨rfl, h2⟩⟩
        | true =>
          obtain ⟨a, vs, h1, h2, h3, _⟩ := RR.tup (r := .b k) (T := []) ⟨rfl, B, hB⟩ ei
          exact ⟨a, vs, h1, h3.mono frz_sub, .inr ⟨rfl, Same.tupAt s h2⟩⟩
      split at e
      · rename_i ep
        cases e
        exact main ep ⟨rfl, rfl⟩
      · split at e
        · rename_i y
          cases e
          simp only [RM] at hB
          refine up (frz_sub (F := F)) ?_
          have hd' : y = (if t = true then .tuple ds else .list ds) := hd
          rw [← hd']
          exact hB.1
        · cases e
theorem tI_read {pu pe : Bool} {fs : EvsF} {g : List Rv → Res (List D)} {σ : L2.St} {H : Hp} {R : It → Hp → Prop} (hg : ∀ rs c x, g rs ≠ .er c x) (h : tI K w mg W pu pe (evSrc g fs) σ H R) :
    tAs K w mg W pu fs σ H fun xs H1 => ∃ F T rs ds, Same F H1 ∧ RRs K w F H1 xs rs T ∧ g rs = .ok ds ∧ ∀ J, ItOk K w J ds (frz F H1 T) (if pe = true then H1 else frz F H1 T) → R J H1 := by
  obtain ⟨m, F, A, hR, hG, h⟩ := h
  refine ⟨m, F, A, hR, hG, ?_⟩
  unfold evSrc at h
  cases e1 : fs m with
  | bad => rw [e1] at h; exact h.elim
  | er c x => rw [e1] at h; exact h
  | ok p =>
    obtain ⟨rs, m1⟩ := p
    rw [e1] at h
    simp only [Res.bind_ok] at h
    show ∀ xs H', EvPs K w pu F H A σ rs m1 xs H' → _
    rintro xs H1 ⟨F1, A1, T1, hR1, g1, s1, r1, p1⟩
    cases e2 : g rs with
    | bad => rw [e2] at h; exact h.elim
    | er c x => exact absurd e2 (hg rs c x)
    | ok ds =>
      rw [e2] at h
      simp only [Res.bind_ok] at h
      refine ⟨F1, T1, rs, ds, g1.sub, r1, e2, fun J ok => h J H1 ⟨frz F1 H1 T1, A1, hR1.keep frz_sub (fun _ _ => rfl), ?_, ?_, p1, ok⟩⟩
      · have := gs_frz (A1 := A1) (A2 := T1) (A3 := []) (by simpa using g1)
        simpa using this
      · exact s1.trans (stp_frz (fun a ha => List.mem_append_left _ ha) fun a ha => List.mem_append_right _ ha)
/-- what a source's reading gives -/
abbrev SrcP (K : PySem.W.Frag) (w : World) (pe : Bool) (g : List Rv → Res (List D)) (xs : List V) (H1 : Hp) (R : It → Hp → Prop) : Prop :=
  ∃ F T rs ds, Same F H1 ∧ RRs K w F H1 xs rs T ∧ g rs = .ok ds ∧ ∀ J, ItOk K w J ds (frz F H1 T) (if pe = true then H1 else frz F H1 T) → R J H1
theorem tI_1 {pu pe : Bool} {fa : EvF} {g : List Rv → Res (List D)} {σ : L2.St} {H : Hp} {R : It → Hp → Prop} (hg : ∀ rs c x, g rs ≠ .er c x) (h : tI K w mg W pu pe (evSrc g (evsCons true fa evsNil)) σ H R) : tE K w mg W pu fa σ H fun x H1 => SrcP K w pe g [x] H1 R := by
  have h1 : tAs K w mg W (pu && true) (evsCons true fa evsNil) σ H fun xs H1 => SrcP K w pe g xs H1 R := by
    rw [Bool.and_true]
    exact tI_read hg h
  exact tE_mono (tAs_cons h1) fun x H1 q => tAs_nil q
theorem tI_2 {pa pb pe : Bool} {fa fb : EvF} {g : List Rv → Res (List D)} {σ : L2.St} {H : Hp} {R : It → Hp → Prop} (hg : ∀ rs c x, g rs ≠ .er c x) (h : tI K w mg W (pa && pb) pe (evSrc g (evsCons pb fa (evsCons true fb evsNil))) σ H R) :
    tE K w mg W pa fa σ H fun x H1 => tE K w mg W pb fb σ H1 fun y H2 => SrcP K w pe g [x, y] H2 R := by
  refine tE_mono (tAs_cons (tI_read hg h)) fun x H1 q => ?_
  have h1 : tAs K w mg W (pb && true) (evsCons true fb evsNil) σ H1 fun xs H2 => SrcP K w pe g (x :: xs) H2 R := by
    rw [Bool.and_true]
    exact q
  exact tE_mono (tAs_cons h1) fun y H2 q => tAs_nil q
theorem srcF_calm {pe : Bool} {r : Rv} {c : Str} {x : Option Int} : srcF pe r ≠ .er c x := by
  intro e
  unfold srcF at e
  repeat' split at e
  all_goals first | exact ne_ofOpt e | cases e
theorem gSeq_calm {pe : Bool} : ∀ rs c x, gSeq pe rs ≠ .er c x := by
  intro rs c x e
  unfold gSeq at e
  split at e
  · rename_i r
    split at e
    · cases e
    cases q : srcF pe r with
    | ok p => rw [q] at e; cases e
    | er c' x' => exact srcF_calm q
    | bad => rw [q] at e; cases e
  · cases e
theorem gVals_calm {pe : Bool} : ∀ rs c x, gVals pe rs ≠ .er c x := by
  intro rs c x e
  unfold gVals at e
  (repeat' split at e) <;> cases e
theorem gItems_calm {pe : Bool} : ∀ rs c x, gItems pe rs ≠ .er c x := by
  intro rs c x e
  unfold gItems at e
  (repeat' split at e) <;> cases e
theorem gEnu_calm {pe : Bool} : ∀ rs c x, gEnu pe rs ≠ .er c x := by
  intro rs c x e
  unfold gEnu at e
  split at e
  · rename_i r
    cases q : srcF pe r with
    | ok p => rw [q] at e; cases e
    | er c' x' => exact srcF_calm q
    | bad => rw [q] at e; cases e
  · cases e
theorem gZip_calm {pe : Bool} : ∀ rs c x, gZip pe rs ≠ .er c x := by
  intro rs c x e
  unfold gZip at e
  split at e
  · rename_i r r2
    cases q : srcF pe r with
    | ok p =>
      rw [q] at e
      simp only [Res.bind_ok] at e
      cases q2 : srcF pe r2 with
      | ok p2 =>
        rw [q2] at e
        simp only [Res.bind_ok] at e
        split at e <;> cases e
      | er c' x' => exact srcF_calm q2
      | bad => rw [q2] at e; cases e
    | er c' x' => exact srcF_calm q
    | bad => rw [q] at e; cases e
  · cases e
theorem gRng1_calm : ∀ rs c x, gRng1 rs ≠ .er c x := by intro rs c x e; unfold gRng1 at e; (repeat' split at e) <;> cases e
theorem gRng2_calm : ∀ rs c x, gRng2 rs ≠ .er c x := by intro rs c x e; unfold gRng2 at e; (repeat' split at e) <;> cases e
theorem gRngD_calm : ∀ rs c x, gRngD rs ≠ .er c x := by intro rs c x e; unfold gRngD at e; (repeat' split at e) <;> cases e
end
section
variable {X : Cx} {k : Nat} {fs : List (Str × Nat)} {cf : CfT} {cs : Str → Option D} {W : WX}
theorem of_ok {α β : Type} {r : Res α} {f : α → Res β} {b : β} (h : r.bind f = .ok b) : ∃ a, r = .ok a ∧ f a = .ok b := by
  cases r with
  | ok a => exact ⟨a, rfl, h⟩
  | er c x => cases h
  | bad => cases h
abbrev SI (X : Cx) (W : WX) (pu pe : Bool) (tg iter : Expr) (f : Sl → Res (List D × Sl)) : Prop := PI X tg iter (tI X.K X.w X.mg W pu pe f)
variable {tg : Expr} {pa pb pe : Bool} {fa fb : EvF} {a b : Expr} {p pos : Pos} {sc : Scope} {f : Str}
theorem si_ex (ha : SE X W pa a fa) : SI X W pa pe tg a (evSrc (gSeq pe) (evsCons true fa evsNil)) := by
  refine pi_imp (pi_seq ha) fun σ H R q => tE_mono (tI_1 gSeq_calm q) fun x H1 ⟨F, T, rs, ds, s, hr, hg, q⟩ => ?_
  obtain ⟨r, rfl, h1⟩ := hr.one
  have sg : Same (if pe = true then H1 else frz F H1 T) H1 := by
    cases pe
    · exact frz_below s
    · exact Same.refl _
  unfold gSeq at hg
  simp only at hg
  split at hg
  · rename_i kvs ek
    cases hg
    obtain ⟨a, c, rfl, h2, h3⟩ := dctF_of s h1 (fun a ha => ha) ek
    exact ⟨a, rfl, .inr (.inr ⟨c, sg _ _ h3, q _ (itk_ok h3 h2)⟩)⟩
  obtain ⟨⟨t, ds'⟩, e1, e2⟩ := of_ok (r := srcF pe r) hg
  cases e2
  obtain ⟨c, vs, rfl, h2, h3⟩ := src_of s h1 (fun a ha => ha) e1
  rcases h3 with h3 | h3
  · exact ⟨c, rfl, .inl ⟨vs, SqL.of (sg _ _ h3.2), q _ (itl_ok h3.2 h2)⟩⟩
  · exact ⟨c, rfl, .inr (.inl ⟨vs, (Same.tupAt sg h3.2).sqT, q _ (itt_ok h3.2 h2)⟩)⟩
theorem si_vals {f : Str} {ap cp : Pos} (hf : f = "values") (hl : (ap.endLine == cp.line) = true) (nb : noBase a = true) (ha : SE X W pa a fa) : SI X W pa pe tg (.Call (.Attribute a f ap) [] [] cp) (evSrc (gVals pe) (evsCons true fa evsNil)) := by
  subst hf
  refine pi_imp (pi_dv ha (base_ok nb) hl) fun σ H R q => tE_mono (tI_1 gVals_calm q) fun x H1 ⟨F, T, rs, ds, s, hr, hg, q⟩ => ?_
  obtain ⟨r, rfl, h1⟩ := hr.one
  have sg : Same (if pe = true then H1 else frz F H1 T) H1 := by
    cases pe
    · exact frz_below s
    · exact Same.refl _
  unfold gVals at hg
  simp only at hg
  split at hg
  · rename_i kvs ek
    cases hg
    obtain ⟨a, c, rfl, h2, h3⟩ := dctF_of s h1 (fun a ha => ha) ek
    exact ⟨a, c, rfl, sg _ _ h3, q _ (itv_ok h3 h2)⟩
  · cases hg
theorem si_items {f : Str} {ap cp : Pos} {elts : List Expr} {kk : Nat} {tpos : Pos} (hf : f = "items") (hl : (ap.endLine == cp.line) = true) (nb : noBase a = true) (ha : SE X W pa a fa) : SI X W pa pe (.Tuple elts kk tpos) (.Call (.Attribute a f ap) [] [] cp) (evSrc (gItems pe) (evsCons true fa evsNil)) := by
  subst hf
  refine pi_imp (pi_di ha (base_ok nb) hl) fun σ H R q => tE_mono (tI_1 gItems_calm q) fun x H1 ⟨F, T, rs, ds, s, hr, hg, q⟩ => ?_
  obtain ⟨r, rfl, h1⟩ := hr.one
  have sg : Same (if pe = true then H1 else frz F H1 T) H1 := by
    cases pe
    · exact frz_below s
    · exact Same.refl _
  unfold gItems at hg
  simp only at hg
  split at hg
  · rename_i kvs ek
    cases hg
    obtain ⟨a, c, rfl, h2, h3⟩ := dctF_of s h1 (fun a ha => ha) ek
    exact ⟨a, c, rfl, sg _ _ h3, q _ (iti_ok h3 h2)⟩
  · cases hg
theorem rng_ok {i : Int} (h : rng62 i = true) : -(2 ^ 62) ≤ i ∧ i < 2 ^ 62 := by
  unfold rng62 at h
  simp only [Bool.and_eq_true, decide_eq_true_eq] at h
  exact h
theorem si_rng1 (C : Ctx X k fs cf cs W) (hs : X.env.scope = sc) (hf : f = "range") (hg : isGl sc f = true) (ok : okE a = true) (ha : SE X W pa a fa) : SI X W pa pe tg (.Call (.Name f p) [a] [] pos) (evSrc gRng1 (evsCons true fa evsNil)) := by
  subst hf
  obtain ⟨g1, g2, g3⟩ := gl_of hs hg
  refine pi_imp (pi_range1 g1 (C.bi _ (by decide)) (pa_cons ha pa_nil (star_ok ok)) (star_ok ok)) fun σ H R q => tE_mono (tI_1 gRng1_calm q) fun x H1 ⟨F, T, rs, ds, s, hr, hg, q⟩ => ?_
  obtain ⟨r, rfl, h1⟩ := hr.one
  unfold gRng1 at hg
  simp only at hg
  split at hg
  · rename_i j ej
    split at hg
    · rename_i hz
      cases hg
      have := h1.int ej
      subst this
      refine ⟨j, rfl, (rng_ok hz).1, (rng_ok hz).2, q _ ?_⟩
      unfold rngList
      rw [Int.sub_zero]
      exact itr_ok
    · cases hg
  · cases hg
theorem si_rng2 (C : Ctx X k fs cf cs W) (hs : X.env.scope = sc) (hf : f = "range") (hg : isGl sc f = true) (ok : okE a = true) (ok' : okE b = true) (ha : SE X W pa a fa) (hb : SE X W pb b fb) : SI X W (pa && pb) pe tg (.Call (.Name f p) [a, b] [] pos) (evSrc gRng2 (evsCons pb fa (evsCons true fb evsNil))) := by
  subst hf
  obtain ⟨g1, g2, g3⟩ := gl_of hs hg
  refine pi_imp (pi_range2 g1 (C.bi _ (by decide)) (pa_cons ha (pa_cons hb pa_nil (star_ok ok')) (star_ok ok)) (by rw [star_ok ok, star_ok ok']; rfl) (star_ok ok')) fun σ H R q => tE_mono (tI_2 gRng2_calm q) fun x H1 q => tE_mono q fun y H2 ⟨F, T, rs, ds, s, hr, hg, qq⟩ => ?_
  obtain ⟨r, r2, T1, T2, rfl, rfl, h1, h2⟩ := hr.two
  unfold gRng2 at hg
  simp only at hg
  split at hg
  · rename_i i j ei ej
    split at hg
    · rename_i hz
      cases hg
      have := h1.int ei
      have := h2.int ej
      subst x y
      rw [Bool.and_eq_true] at hz
      exact ⟨i, j, rfl, ⟨(rng_ok hz.1).1, (rng_ok hz.1).2, (rng_ok hz.2).1, (rng_ok hz.2).2⟩, qq _ itr_ok⟩
    · cases hg
  · cases hg
theorem se_m1 {kk : Nat} {p1 p2 : Pos} : PE X (.UnaryOp .USub (.Constant (.int 1) kk p1) p2) (tC (.int (-1))) := by
  refine pe_imp (pe_un un_neg pe_int) fun σ H Q q => ?_
  exact ⟨1, rfl, q⟩
theorem si_rngD (C : Ctx X k fs cf cs W) {kk : Nat} {p1 p2 : Pos} (hs : X.env.scope = sc) (hf : f = "range") (hg : isGl sc f = true) (ok : okE a = true) (ok' : okE b = true) (ha : SE X W pa a fa) (hb : SE X W pb b fb) :
    SI X W (pa && pb) pe tg (.Call (.Name f p) [a, b, .UnaryOp .USub (.Constant (.int 1) kk p1) p2] [] pos) (evSrc gRngD (evsCons pb fa (evsCons true fb evsNil))) := by
  subst hf
  obtain ⟨g1, g2, g3⟩ := gl_of hs hg
  refine pi_imp (pi_range3 g1 (C.bi _ (by decide)) (pa_cons ha (pa_cons hb (pa_cons se_m1 pa_nil) (star_ok ok')) (star_ok ok)) (star_ok ok) (by rw [star_ok ok']; rfl)) fun σ H R q => tE_mono (tI_2 gRngD_calm q) fun x H1 q => tE_mono q fun y H2 ⟨F, T, rs, ds, s, hr, hg, qq⟩ => ?_
  obtain ⟨r, r2, T1, T2, rfl, rfl, h1, h2⟩ := hr.two
  unfold gRngD at hg
  simp only at hg
  split at hg
  · rename_i i j ei ej
    split at hg
    · rename_i hz
      cases hg
      have := h1.int ei
      have := h2.int ej
      subst x y
      rw [Bool.and_eq_true] at hz
      exact ⟨i, j, -1, _, rfl, RgC.neg (rng_ok hz.1).1 (rng_ok hz.1).2 (rng_ok hz.2).1 (rng_ok hz.2).2, qq _ itc_ok⟩
    · cases hg
  · cases hg
theorem si_enu (C : Ctx X k fs cf cs W) {elts : List Expr} {kk : Nat} {tpos : Pos} (hs : X.env.scope = sc) (hf : f = "enumerate") (hg : isGl sc f = true) (ok : okE a = true) (ha : SE X W pa a fa) :
    SI X W pa pe (.Tuple elts kk tpos) (.Call (.Name f p) [a] [] pos) (evSrc (gEnu pe) (evsCons true fa evsNil)) := by
  subst hf
  obtain ⟨g1, g2, g3⟩ := gl_of hs hg
  refine pi_imp (pi_enumA g1 (C.bi _ (by decide)) ha (star_ok ok)) fun σ H R q => tE_mono (tI_1 gEnu_calm q) fun x H1 ⟨F, T, rs, ds, s, hr, hg, qq⟩ => ?_
  obtain ⟨r, rfl, h1⟩ := hr.one
  obtain ⟨⟨t, ds'⟩, e1, e2⟩ := of_ok (r := srcF pe r) hg
  cases e2
  obtain ⟨c, vs, rfl, h2, h3⟩ := src_of s h1 (fun a ha => ha) e1
  have sg : Same (if pe = true then H1 else frz F H1 T) H1 := by
    cases pe
    · exact frz_below s
    · exact Same.refl _
  rcases h3 with h3 | h3
  · exact ⟨c, vs, rfl, .inl ⟨SqL.of (sg _ _ h3.2), qq _ (ite_ok h3.2 h2)⟩⟩
  · exact ⟨c, vs, rfl, .inr ⟨(Same.tupAt sg h3.2).sqT, qq _ (iteT_ok h3.2 h2)⟩⟩
theorem si_zip (C : Ctx X k fs cf cs W) {elts : List Expr} {kk : Nat} {tpos : Pos} (hs : X.env.scope = sc) (hf : f = "zip") (hg : isGl sc f = true) (ok : okE a = true) (ok' : okE b = true) (ha : SE X W pa a fa) (hb : SE X W pb b fb) :
    SI X W (pa && pb) pe (.Tuple elts kk tpos) (.Call (.Name f p) [a, b] [] pos) (evSrc (gZip pe) (evsCons pb fa (evsCons true fb evsNil))) := by
  subst hf
  obtain ⟨g1, g2, g3⟩ := gl_of hs hg
  refine pi_imp (RZ.pi_zipA g1 (C.bi _ (by decide)) (pa_cons ha (pa_cons hb pa_nil (star_ok ok')) (star_ok ok)) (star_ok ok) (by rw [star_ok ok']; rfl)) fun σ H R q => tE_mono (tI_2 gZip_calm q) fun x H1 q => tE_mono q fun y H2 ⟨F, T, rs, ds, s, hr, hg, qq⟩ => ?_
  obtain ⟨r, r2, T1, T2, rfl, rfl, h1, h2⟩ := hr.two
  obtain ⟨⟨t, d1⟩, e1, hg⟩ := of_ok (r := srcF pe r) hg
  obtain ⟨⟨t', d2⟩, e2, hg⟩ := of_ok (r := srcF pe r2) hg
  simp only at hg
  split at hg
  · rename_i et
    subst et
    cases hg
    obtain ⟨c, vs, rfl, k2, k3⟩ := src_of s h1 (fun a ha => List.mem_append_left T2 ha) e1
    obtain ⟨c', us, rfl, l2, l3⟩ := src_of s h2 (fun a ha => List.mem_append_right T1 ha) e2
    have sg : Same (if pe = true then H2 else frz F H2 (T1 ++ T2)) H2 := by
      cases pe
      · exact frz_below s
      · exact Same.refl _
    rcases k3 with k3 | k3
    · rcases l3 with l3 | l3
      · exact ⟨c, c', vs, us, rfl, .inl ⟨SqL.of (sg _ _ k3.2), SqL.of (sg _ _ l3.2), qq _ (itz_ok k3.2 k2 l3.2 l2)⟩⟩
      · rw [k3.1] at l3
        cases l3.1
    · rcases l3 with l3 | l3
      · rw [k3.1] at l3
        cases l3.1
      · exact ⟨c, c', vs, us, rfl, .inr ⟨(Same.tupAt sg k3.2).sqT, (Same.tupAt sg l3.2).sqT, qq _ (itzT_ok k3.2 k2 l3.2 l2)⟩⟩
  · cases hg
end
end Oa

/-! Part 15: slots stored, forgotten, put back; targets. -/
namespace Oa
open PySem PySem.Spec PyProof.Rows L2
section
variable {K : PySem.W.Frag} {w : World}
/-- a slot's value is of no weight where nothing is known -/
theorem RS.irr {F H : Hp} : ∀ {m : Sl} {σ σ' : L2.St} {A : List Addr}, RS K w F H σ m A → σ'.length = σ.length → (∀ (i : Nat) (k : M), m[i]? = some (some k) → σ'[i]? = σ[i]?) → RS K w F H σ' m A
  | [], [], [], _, h, _, _ => h
  | [], [], _ :: _, _, _, l, _ => by simp at l
  | [], _ :: _, _, _, h, _, _ => by simp only [RS] at h
  | _ :: _, [], _, _, h, _, _ => by simp only [RS] at h
  | _ :: _, _ :: _, [], _, _, l, _ => by simp at l
  | none :: m, x :: σ, y :: σ', _, h, l, e => by
    simp only [RS] at h ⊢
    exact RS.irr h (by simpa using l) fun i k z => by simpa using e (i + 1) k (by simpa using z)
  | some k0 :: m, x :: σ, y :: σ', _, h, l, e => by
    simp only [RS] at h ⊢
    obtain ⟨u, A1, A2, hx, h1, h2, rfl⟩ := h
    have e0 := e 0 k0 rfl
    simp only [List.getElem?_cons_zero, Option.some.injEq] at e0
    exact ⟨u, A1, A2, e0.trans hx, h1, RS.irr h2 (by simpa using l) fun i k z => by simpa using e (i + 1) k (by simpa using z), rfl⟩
/-- unknown slots may be told by pure data -/
theorem RS.fill {F H : Hp} : ∀ {m m' : Sl} {σ : L2.St} {A : List Addr}, RS K w F H σ m A → m'.length = m.length → (∀ (i : Nat), i < m.length → m'[i]? = m[i]? ∨ (m[i]? = some none ∧ (m'[i]? = some none ∨ ∃ x u, m'[i]? = some (some (.d x)) ∧ σ[i]? = some (some u) ∧ RepD K w F u x))) → RS K w F H σ m' A
  | [], [], [], _, h, _, _ => h
  | [], _ :: _, _, _, _, l, _ => by simp at l
  | [], [], _ :: _, _, h, _, _ => by simp only [RS] at h
  | _ :: _, _, [], _, h, _, _ => by simp only [RS] at h
  | _ :: _, [], _ :: _, _, _, l, _ => by simp at l
  | none :: m, y :: m', x :: σ, _, h, l, e => by
    simp only [RS] at h
    have r := RS.fill (m' := m') h (by simpa using l) fun i hi => by simpa using e (i + 1) (by simpa using hi)
    have e0 := e 0 (by simp)
    simp only [List.getElem?_cons_zero, Option.some.injEq, true_and] at e0
    rcases e0 with rfl | rfl | ⟨d, u, rfl, rfl, q⟩
    · simpa only [RS] using r
    · simpa only [RS] using r
    · simp only [RS]
      exact ⟨u, [], _, rfl, (by simp only [RM]; exact ⟨q, trivial⟩), r, rfl⟩
  | some k0 :: m, y :: m', x :: σ, _, h, l, e => by
    simp only [RS] at h
    obtain ⟨u, A1, A2, hx, h1, h2, rfl⟩ := h
    have r := RS.fill (m' := m') h2 (by simpa using l) fun i hi => by simpa using e (i + 1) (by simpa using hi)
    have e0 := e 0 (by simp)
    simp only [List.getElem?_cons_zero, Option.some.injEq, reduceCtorEq, false_and, or_false] at e0
    subst e0
    simp only [RS]
    exact ⟨u, A1, A2, hx, h1, r, rfl⟩
theorem RS.drop {F H : Hp} : ∀ {m : Sl} {σ : L2.St} {A : List Addr} (i : Nat), RS K w F H σ m A → ∃ A', RS K w F H σ (m.set i none) A' ∧ A'.Sublist A
  | [], _, A, i, h => ⟨A, by simpa using h, .refl _⟩
  | _ :: _, [], _, _, h => by simp only [RS] at h
  | none :: m, x :: σ, A, 0, h => ⟨A, by simpa using h, .refl _⟩
  | none :: m, x :: σ, A, i + 1, h => by
    simp only [RS] at h
    obtain ⟨A', h1, h2⟩ := RS.drop i h
    exact ⟨A', by simpa only [List.set_cons_succ, RS] using h1, h2⟩
  | some k0 :: m, x :: σ, A, 0, h => by
    simp only [RS] at h
    obtain ⟨u, A1, A2, hx, h1, h2, rfl⟩ := h
    exact ⟨A2, by simpa only [List.set_cons_zero, RS] using h2, List.sublist_append_right _ _⟩
  | some k0 :: m, x :: σ, A, i + 1, h => by
    simp only [RS] at h
    obtain ⟨u, A1, A2, hx, h1, h2, rfl⟩ := h
    obtain ⟨A', k1, k2⟩ := RS.drop i h2
    exact ⟨A1 ++ A', by simp only [List.set_cons_succ, RS]; exact ⟨u, A1, A', hx, h1, k1, rfl⟩, k2.append_left _⟩
theorem RS.clr {F H : Hp} {m : Sl} {σ : L2.St} {A : List Addr} (h : RS K w F H σ m A) : ∀ is : List Nat, ∃ A', RS K w F H σ (clr m is) A' ∧ A'.Sublist A
  | [] => ⟨A, h, .refl _⟩
  | i :: is => by
    obtain ⟨A1, h1, s1⟩ := RS.clr h is
    obtain ⟨A2, h2, s2⟩ := RS.drop i h1
    exact ⟨A2, h2, s2.trans s1⟩
theorem clr_length (m : Sl) : ∀ is : List Nat, (clr m is).length = m.length
  | [] => rfl
  | i :: is => by simp only [clr, List.length_set]; exact clr_length m is
theorem clr_get {m : Sl} : ∀ {is : List Nat} {i : Nat}, (clr m is)[i]? = if i ∈ is ∧ i < m.length then some none else m[i]?
  | [], i => by simp [clr]
  | j :: is, i => by
    simp only [clr]
    rw [List.getElem?_set, clr_length, clr_get]
    by_cases e : j = i
    · subst e
      by_cases hl : j < m.length
      · simp [hl]
      · simp [hl]
    · have e' : i ≠ j := fun z => e z.symm
      simp [e, e']
theorem back_length (m0 m : Sl) : ∀ is : List Nat, (back m0 m is).length = m.length
  | [] => rfl
  | i :: is => by simp only [back, List.length_set]; exact back_length m0 m is
theorem back_get {m0 m : Sl} : ∀ {is : List Nat} {i : Nat}, (back m0 m is)[i]? = if i ∈ is ∧ i < m.length then some (pureAt m0 i) else m[i]?
  | [], i => by simp [back]
  | j :: is, i => by
    simp only [back]
    rw [List.getElem?_set, back_length, back_get]
    by_cases e : j = i
    · subst e
      by_cases hl : j < m.length
      · simp [hl]
      · simp [hl]
    · have e' : i ≠ j := fun z => e z.symm
      simp [e, e']
/-- apart from is, as it was -/
def Agree (is : List Nat) (σ σ' : L2.St) : Prop := σ'.length = σ.length ∧ ∀ i, i ∉ is → σ'[i]? = σ[i]?
theorem Agree.refl (is : List Nat) (σ : L2.St) : Agree is σ σ := ⟨rfl, fun _ _ => rfl⟩
theorem Agree.trans {is : List Nat} {σ σ' σ2 : L2.St} (a : Agree is σ σ') (b : Agree is σ' σ2) : Agree is σ σ2 := ⟨b.1.trans a.1, fun i h => (b.2 i h).trans (a.2 i h)⟩
theorem Agree.mono {is js : List Nat} {σ σ' : L2.St} (h : ∀ i ∈ is, i ∈ js) (a : Agree is σ σ') : Agree js σ σ' := ⟨a.1, fun i hi => a.2 i fun z => hi (h i z)⟩
theorem wipe_get {σ : L2.St} : ∀ {is : List Nat} {i : Nat}, (wipe σ is)[i]? = if i ∈ is ∧ i < σ.length then some none else σ[i]?
  | [], i => by simp [wipe]
  | j :: is, i => by
    simp only [wipe]
    rw [List.getElem?_set, wipe_length, wipe_get]
    by_cases e : j = i
    · subst e
      by_cases hl : j < σ.length
      · simp [hl]
      · simp [hl]
    · have e' : i ≠ j := fun z => e z.symm
      simp [e, e']
theorem Agree.wipe {is : List Nat} {σ σ' : L2.St} (a : Agree is σ σ') : wipe σ' is = wipe σ is := by
  apply List.ext_getElem?
  intro i
  rw [wipe_get, wipe_get, a.1]
  by_cases h : i ∈ is
  · by_cases hl : i < σ.length
    · simp [h, hl]
    · rw [if_neg (by simp [hl]), if_neg (by simp [hl]), List.getElem?_eq_none (show σ'.length ≤ i by have := a.1; omega), List.getElem?_eq_none (show σ.length ≤ i by omega)]
  · rw [if_neg (by simp [h]), if_neg (by simp [h]), a.2 i h]
theorem agree_wipe (is : List Nat) (σ : L2.St) : Agree is σ (wipe σ is) := ⟨wipe_length _ _, fun i h => by rw [wipe_get, if_neg (by simp [h])]⟩
theorem GS.sub' {F H : Hp} {A B : List Addr} (g : GS F H A) (s : B.Sublist A) : GS F H B := ⟨g.sub, g.nd.sublist s, fun a h => g.off a (s.subset h), fun a h => g.own a (s.subset h)⟩

/-! ### targets -/
mutual
theorem put_length : ∀ {t : Tg} {d : D} {m m' : Sl}, t.put d m = some m' → m'.length = m.length
  | .n i, d, m, m', h => by
    simp only [Tg.put] at h
    split at h
    · cases h
      simp
    · cases h
  | .t ts, .tuple ds, m, m', h => by
    simp only [Tg.put] at h
    split at h
    · exact puts_length h
    · cases h
  | .t _, .none, _, _, h => by simp [Tg.put] at h
  | .t _, .bool _, _, _, h => by simp [Tg.put] at h
  | .t _, .int _, _, _, h => by simp [Tg.put] at h
  | .t _, .str _, _, _, h => by simp [Tg.put] at h
  | .t _, .list _, _, _, h => by simp [Tg.put] at h
  | .t _, .dict _, _, _, h => by simp [Tg.put] at h
theorem puts_length : ∀ {ts : List Tg} {ds : List D} {m m' : Sl}, Tg.puts ts ds m = some m' → m'.length = m.length
  | [], [], m, m', h => by
    simp only [Tg.puts, Option.some.injEq] at h
    rw [h]
  | [], _ :: _, _, _, h => by simp [Tg.puts] at h
  | _ :: _, [], _, _, h => by simp [Tg.puts] at h
  | a :: r, d :: ds, m, m', h => by
    simp only [Tg.puts, Option.bind_eq_some_iff] at h
    obtain ⟨m1, h1, h2⟩ := h
    rw [puts_length h2, put_length h1]
end
def gT (K : PySem.W.Frag) (w : World) (t : Tg) : TG := fun x σ H Q => ∃ m F A d m', RS K w F H σ m A ∧ Same F H ∧ RepD K w F x d ∧ t.put d m = some m' ∧ ∀ σ' A', RS K w F H σ' m' A' → A'.Sublist A → Agree t.slots σ σ' → Q σ' H
def gTs (K : PySem.W.Frag) (w : World) (ts : List Tg) : TGs := fun xs σ H Q => ∃ m F A ds m', RS K w F H σ m A ∧ Same F H ∧ RepDs K w F xs ds ∧ Tg.puts ts ds m = some m' ∧ ∀ σ' A', RS K w F H σ' m' A' → A'.Sublist A → Agree (Tg.slotss ts) σ σ' → Q σ' H
/-- a name stored -/
theorem put_name {F H : Hp} {σ : L2.St} {m : Sl} {A : List Addr} {x : V} {d : D} {i : Nat} (hR : RS K w F H σ m A) (hi : i < m.length) (hx : RepD K w F x d) : ∃ A', RS K w F H (σ.set i (some x)) (m.set i (some (.d d))) A' ∧ A'.Sublist A ∧ Agree [i] σ (σ.set i (some x)) := by
  obtain ⟨A1, A3, ⟨B, e⟩, h⟩ := hR.put hi
  have := h F H x (.d d) [] (Same.refl F) (fun _ _ => rfl) (by simp only [RM]; exact ⟨hx, trivial⟩)
  refine ⟨A1 ++ [] ++ A3, this, ?_, List.length_set, fun j hj => ?_⟩
  · rw [e]
    simp only [List.append_nil]
    exact (List.sublist_append_left A1 B).append (.refl A3)
  · rw [List.getElem?_set_ne (by simpa [eq_comm] using hj)]
end
section
variable {X : Cx} {fn : Bool} {sc : Scope}
theorem isSt_of {N : List Str} {i : Nat} {x : Str} (h : isSt N fn sc i x = true) : N[i]? = some x ∧ (sc.names.lookup x = some .local ∨ (sc.names.lookup x = some .cell ∧ fn = true)) := by
  unfold isSt at h
  simp only [Bool.and_eq_true, decide_eq_true_eq] at h
  refine ⟨h.1, ?_⟩
  have h2 := h.2
  split at h2
  · rename_i e; exact .inl e
  · rename_i e; exact .inr ⟨e, h2⟩
  · cases h2
theorem tgs_plain {N : List Str} : ∀ {ts : List Tg} {es : List Expr} {env : Env}, Tg.chks N fn sc ts es = true → (assignEach es env).length = ts.length ∧ (assignEach es env).findIdx? (·.1) = none
  | [], [], _, _ => ⟨rfl, rfl⟩
  | [], _ :: _, _, h => by simp [Tg.chks] at h
  | _ :: _, [], _, h => by simp [Tg.chks] at h
  | t :: ts, e :: es, env, h => by
    simp only [Tg.chks, Bool.and_eq_true] at h
    obtain ⟨h1, h2⟩ := tgs_plain (env := env) h.2
    have e0 : assignEach (e :: es) env = (false, assign e env) :: assignEach es env := by
      cases e <;> first | rfl | (exfalso; have := h.1; cases t <;> simp [Tg.chk] at this)
    rw [e0]
    refine ⟨by simp [h1], ?_⟩
    rw [List.findIdx?_cons]
    simp [h2]
theorem tg_assign {N : List Str} {t : Tg} {e : Expr} {es : List Expr} {env : Env} (h : Tg.chk N fn sc t e = true) : (assignEach (e :: es) env).map (·.2) = assign e env :: (assignEach es env).map (·.2) := by
  cases e <;> first | rfl | (exfalso; cases t <;> simp [Tg.chk] at h)
mutual
theorem pg_T (hc : X.calm = true) (hN : X.N.Nodup) (hl : ∀ x k, k ≠ .free → sc.names.lookup x = some k → X.env.scope.names.lookup x = some k) (hf : fn = true → ∀ x, sc.names.lookup x = some .cell → X.fn x = true) :
    ∀ {t : Tg} {e : Expr}, Tg.chk X.N fn sc t e = true → PG X e (gT X.K X.w t)
  | .n i, .Name x p, h => by
    simp only [Tg.chk] at h
    obtain ⟨h1, h2⟩ := isSt_of h
    have hx : Loc X.env.scope x := by
      rcases h2 with e | ⟨e, _⟩
      · exact .inl (hl _ _ (by decide) e)
      · exact .inr (hl _ _ (by decide) e)
    have hf' : X.fn x = true ∨ X.env.scope.names.lookup x = some .local := by
      rcases h2 with e | ⟨e, z⟩
      · exact .inr (hl _ _ (by decide) e)
      · exact .inl (hf z _ e)
    refine ⟨fun pins s σ H v u Q I r q => (pg_name hN h1 hx hf').run pins s σ H v u Q I r ?_⟩
    obtain ⟨m, F, A, d, m', hR, hs, hx, hp, q⟩ := q
    simp only [Tg.put] at hp
    split at hp
    · rename_i hi
      cases hp
      obtain ⟨A', k1, k2, k3⟩ := put_name hR hi hx
      exact q _ A' k1 k2 k3
    · cases hp
  | .t ts, .Tuple es kk p, h => by
    simp only [Tg.chk] at h
    obtain ⟨h1, h2⟩ := tgs_plain (env := X.env) h
    refine ⟨fun pins s σ H v u Q I r q => (pg_tup (n := ts.length) hc (pgs_T hc hN hl hf h) h1 h2).run pins s σ H v u Q I r ?_⟩
    obtain ⟨m, F, A, d, m', hR, hs, hx, hp, q⟩ := q
    match d, hp with
    | .tuple ds, hp =>
      simp only [Tg.put] at hp
      split at hp
      · rename_i hz
        simp only [RepD] at hx
        obtain ⟨a, vs, rfl, h3, h4⟩ := hx
        refine ⟨a, vs, rfl, (Same.tupAt hs h3).sqT, by rw [h4.length, hz], m, F, A, ds, m', hR, hs, h4, hp, fun σ' A' k1 k2 k3 => q σ' A' k1 k2 (by simpa only [Tg.slots] using k3)⟩
      · cases hp
    | .none, hp => simp [Tg.put] at hp
    | .bool _, hp => simp [Tg.put] at hp
    | .int _, hp => simp [Tg.put] at hp
    | .str _, hp => simp [Tg.put] at hp
    | .list _, hp => simp [Tg.put] at hp
    | .dict _, hp => simp [Tg.put] at hp
  | .n _, .Tuple .., h => by simp [Tg.chk] at h
  | .t _, .Name .., h => by simp [Tg.chk] at h
theorem pgs_T (hc : X.calm = true) (hN : X.N.Nodup) (hl : ∀ x k, k ≠ .free → sc.names.lookup x = some k → X.env.scope.names.lookup x = some k) (hf : fn = true → ∀ x, sc.names.lookup x = some .cell → X.fn x = true) :
    ∀ {ts : List Tg} {es : List Expr}, Tg.chks X.N fn sc ts es = true → PGs X es (gTs X.K X.w ts)
  | [], [], h => ⟨fun pins s σ H vs us Q I r q => pgs_nil.run pins s σ H vs us Q I r (by
      obtain ⟨m, F, A, ds, m', hR, hs, hx, hp, q⟩ := q
      match ds, vs, hx, hp with
      | [], [], hx, hp =>
        simp only [Tg.puts, Option.some.injEq] at hp
        subst hp
        exact ⟨rfl, q σ A hR (.refl _) (Agree.refl _ _)⟩
      | [], _ :: _, hx, _ => simp only [RepDs] at hx
      | _ :: _, _, _, hp => simp [Tg.puts] at hp)⟩
  | [], _ :: _, h => by simp [Tg.chks] at h
  | _ :: _, [], h => by simp [Tg.chks] at h
  | t :: ts, e :: es, h => by
    simp only [Tg.chks, Bool.and_eq_true] at h
    refine ⟨fun pins s σ H vs us Q I r q => (pgs_cons (pg_T hc hN hl hf h.1) (pgs_T hc hN hl hf h.2) (tg_assign h.1)).run pins s σ H vs us Q I r ?_⟩
    obtain ⟨m, F, A, ds, m', hR, hs, hx, hp, q⟩ := q
    match ds, vs, hx, hp with
    | [], _, _, hp => simp [Tg.puts] at hp
    | _ :: _, [], hx, _ => simp only [RepDs] at hx
    | d :: ds, v :: vs, hx, hp =>
      simp only [RepDs] at hx
      simp only [Tg.puts, Option.bind_eq_some_iff] at hp
      obtain ⟨m1, p1, p2⟩ := hp
      refine ⟨v, vs, rfl, m, F, A, d, m1, hR, hs, hx.1, p1, fun σ1 A1 k1 k2 k3 => ⟨m1, F, A1, ds, m', k1, hs, hx.2, p2, fun σ2 A2 l1 l2 l3 => q σ2 A2 l1 (l2.trans k2) ?_⟩⟩
      simp only [Tg.slotss]
      exact (k3.mono fun i hi => List.mem_append_left _ hi).trans (l3.mono fun i hi => List.mem_append_right _ hi)
end
end
end Oa

/-! Part 16: list comprehensions. -/
namespace Oa
open PySem PySem.Spec PyProof.Rows L2
section
variable {K : PySem.W.Frag} {w : World}
theorem carry {F H F' H' : Hp} {A A' S : List Addr} (g : GS F H (A ++ S)) (s : Stp A F H A' F' H') (g' : GS F' H' A') : GS F' H' (A' ++ S) ∧ Stp (A ++ S) F H (A' ++ S) F' H' ∧ ∀ a ∈ S, H' a = H a := by
  obtain ⟨hd, hk⟩ := s.held g'.sub g.held
  refine ⟨g'.join hd g.right.nd, ?_, hk⟩
  exact (s.frame (T := S)).mem (fun a ha => by simpa [or_comm] using ha) fun a ha => .inl (by simpa [or_comm] using ha)
theorem RMs.app {F H : Hp} : ∀ {ms ns : List M} {xs ys : List V} {A B : List Addr}, RMs K w F H xs ms A → RMs K w F H ys ns B → RMs K w F H (xs ++ ys) (ms ++ ns) (A ++ B)
  | [], _, [], _, _, _, h, g => by
    simp only [RMs] at h
    subst h
    simpa using g
  | [], _, _ :: _, _, _, _, h, _ => by simp only [RMs] at h
  | _ :: _, _, [], _, _, _, h, _ => by simp only [RMs] at h
  | m :: ms, _, x :: xs, _, _, B, h, g => by
    simp only [RMs] at h
    obtain ⟨A1, A2, h1, h2, rfl⟩ := h
    simp only [List.cons_append, RMs]
    exact ⟨A1, A2 ++ B, h1, RMs.app h2 g, by simp⟩
theorem RMs.len {F H : Hp} : ∀ {ms : List M} {xs : List V} {A : List Addr}, RMs K w F H xs ms A → xs.length = ms.length
  | [], [], _, _ => rfl
  | [], _ :: _, _, h => by simp only [RMs] at h
  | _ :: _, [], _, h => by simp only [RMs] at h
  | m :: ms, x :: xs, _, h => by
    simp only [RMs] at h
    obtain ⟨A1, A2, h1, h2, rfl⟩ := h
    simp [RMs.len h2]
def isDs : List M → Bool
  | [] => true
  | .d _ :: r => isDs r
  | _ :: _ => false
theorem isDs_app : ∀ {a : List M} {x : D}, isDs a = true → isDs (a ++ [.d x]) = true
  | [], _, _ => rfl
  | .d y :: r, x, h => by
    simp only [List.cons_append, isDs] at h ⊢
    exact isDs_app h
  | .v _ :: _, _, h => by cases h
  | .l _ :: _, _, h => by cases h
  | .m _ :: _, _, h => by cases h
  | .s _ :: _, _, h => by cases h
  | .t _ :: _, _, h => by cases h
  | .g _ _ :: _, _, h => by cases h
theorem rms_pure {F H : Hp} : ∀ {ms : List M} {xs : List V} {A : List Addr}, RMs K w F H xs ms A → isDs ms = true → RepDs K w F xs (M.datas ms) ∧ A = []
  | [], [], _, h, _ => by
    simp only [RMs] at h
    exact ⟨trivial, h⟩
  | [], _ :: _, _, h, _ => by simp only [RMs] at h
  | _ :: _, [], _, h, _ => by simp only [RMs] at h
  | .d y :: ms, x :: xs, _, h, e => by
    simp only [RMs] at h
    obtain ⟨A1, A2, h1, h2, rfl⟩ := h
    simp only [isDs] at e
    obtain ⟨h3, rfl⟩ := rms_pure h2 e
    simp only [RM] at h1
    obtain ⟨h1, rfl⟩ := h1
    simp only [M.datas, M.data, RepDs]
    exact ⟨⟨h1, h3⟩, rfl⟩
  | .v _ :: _, _ :: _, _, _, e => by cases e
  | .l _ :: _, _ :: _, _, _, e => by cases e
  | .m _ :: _, _ :: _, _, _, e => by cases e
  | .s _ :: _, _ :: _, _, _, e => by cases e
  | .t _ :: _, _ :: _, _, _, e => by cases e
  | .g _ _ :: _, _ :: _, _, _, e => by cases e
theorem turns_calm {own : Bool} {t : Tg} {cond : Sl → Res (Bool × Sl)} {elt : EvF} : ∀ {ds : List D} {m : Sl} {acc : List M} {c : Str} {x : Option Int}, turns own t cond elt ds m acc ≠ .er c x
  | [], _, _, _, _ => fun h => by simp only [turns] at h; cases h
  | d :: ds, m, acc, c, x => fun h => by
    simp only [turns] at h
    repeat' split at h
    all_goals first | exact turns_calm h | cases h
/-- a comprehension's test -/
def tCond (K : PySem.W.Frag) (w : World) (pc : Bool) (cond : Sl → Res (Bool × Sl)) : TT := fun σ H Q => ∃ m F A, RS K w F H σ m A ∧ GS F H A ∧ match cond m with
  | .ok (b, m') => ∀ H', (∃ F' A', RS K w F' H' σ m' A' ∧ GS F' H' A' ∧ Stp A F H A' F' H' ∧ (pc = true → Same H H')) → Q b H'
  | _ => False
/-- what holds ahead of turn i -/
structure LI (K : PySem.W.Frag) (w : World) (own : Bool) (t : Tg) (cond : Sl → Res (Bool × Sl)) (elt : EvF) (pe : Bool) (ds : List D) (σ : L2.St) (A1 : List Addr) (F1 H1 : Hp) (p : Addr) (accF : List M) (mF : Sl) (i : Nat) (H : Hp) (m : Sl) (F : Hp) (A : List Addr) (acc : List M) (accV : List V) (T : List Addr) : Prop where
  le : i ≤ ds.length
  run : turns own t cond elt (ds.drop i) m acc = .ok (accF, mF)
  rs : RS K w F H (wipe σ t.slots) (clr m t.slots) A
  gs : GS F H (A ++ p :: T)
  st : Stp A1 F1 H1 (A ++ p :: T) F H
  at' : H p = some (.lst accV)
  rm : RMs K w F H accV acc T
  pur : own = false → isDs acc = true
  sm : pe = true → Same H1 H
theorem gs_lay {F H : Hp} {A : List Addr} {p : Addr} {o : HO} (g : GS F H A) (hp : H p = none) (ow : Ownd o) : GS F (upd H p o) (A ++ [p]) ∧ Stp A F H (A ++ [p]) F (upd H p o) ∧ ∀ a ∈ A, upd H p o a = H a := by
  have ne : ∀ a ∈ A, a ≠ p := fun a ha z => by
    obtain ⟨u, hu, _⟩ := g.own a ha
    rw [z, hp] at hu
    cases hu
  have fp : F p = none := g.sub.free hp
  refine ⟨⟨g.sub.trans (same_new hp), List.nodup_append.mpr ⟨g.nd, by simp, fun a ha b hb e => ?_⟩, fun a ha => ?_, fun a ha => ?_⟩, ⟨Same.refl F, fun a u e _ => same_new hp a u e, fun a ha => ?_, fun a u e => .inl e⟩, fun a ha => upd_ne (ne a ha)⟩
  · rw [List.mem_singleton] at hb
    exact ne a ha (e.trans hb)
  · rcases List.mem_append.mp ha with h | h
    · exact g.off a h
    · rw [List.mem_singleton] at h
      rw [h]
      exact fp
  · rcases List.mem_append.mp ha with h | h
    · obtain ⟨u, hu, hw⟩ := g.own a h
      exact ⟨u, same_new hp a u hu, hw⟩
    · rw [List.mem_singleton] at h
      subst h
      exact ⟨o, upd_same, ow⟩
  · rcases List.mem_append.mp ha with h | h
    · exact .inl h
    · rw [List.mem_singleton] at h
      exact .inr (h ▸ hp)
/-- an element is kept -/
theorem keep_of {own : Bool} {F H : Hp} {A S T4 : List Addr} {y : V} {r : Rv} {kk : M} (g : GS F H (A ++ T4 ++ S)) (h : RR K w F H y r T4) (e : keepM own r = some kk) :
    ∃ F5 T5, Stp (A ++ T4 ++ S) F H (A ++ (S ++ T5)) F5 H ∧ GS F5 H (A ++ (S ++ T5)) ∧ Same F F5 ∧ RM K w F5 H y kk T5 ∧ (own = false → ∃ x, kk = .d x) := by
  cases r with
  | o k0 =>
    unfold keepM at e
    simp only at e
    split at e
    · rename_i hf
      cases own with
      | true =>
        cases e
        refine ⟨F, T4, Stp.refl.mem (fun _ h => h) (fun a ha => ?_), g.perm ?_, Same.refl F, h, fun z => (by cases z)⟩
        · left
          simp only [List.mem_append] at ha ⊢
          rcases ha with h | h | h
          · exact .inl (.inl h)
          · exact .inr h
          · exact .inl (.inr h)
        · rw [List.append_assoc]
          exact (List.perm_append_comm).append_left A
      | false =>
        cases e
        refine ⟨frz F H T4, [], stp_frz (fun a ha => ?_) (fun a ha => ?_), ?_, frz_sub, ?_, fun _ => ⟨_, rfl⟩⟩
        · simp only [List.append_nil, List.mem_append] at ha ⊢
          rcases ha with h | h
          · exact .inl (.inl h)
          · exact .inr h
        · simp only [List.mem_append]
          exact .inl (.inr ha)
        · simpa using gs_frz g
        · simp only [Bool.false_eq_true, if_false, RM]
          exact ⟨RM.frz h hf g.sub, trivial⟩
    · cases e
  | b k0 =>
    cases k0 with
    | d x =>
      cases e
      obtain ⟨rfl, B, hB⟩ := h
      simp only [RM] at hB
      refine ⟨F, [], by simpa using Stp.refl, by simpa using g, Same.refl F, ?_, fun _ => ⟨x, rfl⟩⟩
      simp only [RM]
      exact ⟨hB.1, trivial⟩
    | _ => cases e
end
end Oa

/-! Part 17: list comprehensions, the reading. -/
namespace Oa
open PySem PySem.Spec PyProof.Rows L2
abbrev W0 : WX := fun _ _ _ _ => False
section
variable {K : PySem.W.Frag} {w : World} {mg : Str → Option Value} {W : WX}
theorem clr_some {m : Sl} {is : List Nat} {i : Nat} {k : M} (h : (clr m is)[i]? = some (some k)) : i ∉ is := fun hi => by
  rw [clr_get] at h
  by_cases hl : i < m.length
  · rw [if_pos ⟨hi, hl⟩] at h
    cases h
  · rw [if_neg (by simp [hl]), List.getElem?_eq_none (by omega)] at h
    cases h
theorem RS.agree {F H : Hp} {σ σ' : L2.St} {m : Sl} {is : List Nat} {A : List Addr} (h : RS K w F H σ (Oa.clr m is) A) (a : Agree is σ σ') : RS K w F H σ' (Oa.clr m is) A :=
  RS.irr h a.1 fun i k e => a.2 i (clr_some e)
theorem pureAt_some {m : Sl} {i : Nat} {k : M} (h : pureAt m i = some k) : ∃ x, k = .d x ∧ m[i]? = some (some (.d x)) := by
  unfold pureAt at h
  split at h
  · rename_i x e
    cases h
    exact ⟨x, rfl, e⟩
  · cases h
theorem rs_back {F H F1 H1 : Hp} {σ : L2.St} {m m1 : Sl} {is : List Nat} {A A1 : List Addr} (h : RS K w F H σ (clr m is) A) (h1 : RS K w F1 H1 σ m1 A1) (s : Same F1 F) : RS K w F H σ (back m1 m is) A := by
  refine RS.fill h (by rw [back_length, clr_length]) fun j hj => ?_
  rw [clr_length] at hj
  rw [back_get, clr_get]
  by_cases hi : j ∈ is
  · rw [if_pos ⟨hi, hj⟩, if_pos ⟨hi, hj⟩]
    right
    refine ⟨rfl, ?_⟩
    cases e : pureAt m1 j with
    | none => exact .inl rfl
    | some kk =>
      right
      obtain ⟨x, rfl, e2⟩ := pureAt_some e
      obtain ⟨u, B1, B2, B3, q1, _, q3, _, _⟩ := h1.at e2
      simp only [RM] at q3
      exact ⟨x, u, rfl, q1, q3.1.mono s⟩
  · rw [if_neg (by simp [hi]), if_neg (by simp [hi])]
    exact .inl rfl
theorem lc_read {p0 pu pc own : Bool} {t : Tg} {cond : Sl → Res (Bool × Sl)} {elt : EvF} {src : Sl → Res (List D × Sl)} {σ : L2.St} {H : Hp} {Q : VK} (h : tE K w mg W (p0 && (pu && pc)) (compF own t cond elt src) σ H Q) :
    tLc (tI K w mg W p0 (pu && pc) src) (gT K w t) (tCond K w pc cond) (tE K w mg W0 pu elt) t.slots σ H Q := by
  obtain ⟨m0, F0, A0, hR, hG, h⟩ := h
  refine ⟨m0, F0, A0, hR, hG, ?_⟩
  unfold compF at h
  cases e1 : src m0 with
  | bad => rw [e1] at h; exact h.elim
  | er c x => rw [e1] at h; exact h
  | ok pp =>
  obtain ⟨ds, m1⟩ := pp
  rw [e1] at h
  simp only [Res.bind_ok] at h
  rintro J H1 ⟨F1, A1, hR1, g1, s1, q1, ok⟩
  intro p hp
  cases e2 : turns own t cond elt ds m1 [] with
  | bad => rw [e2] at h; exact h.elim
  | er c x => exact absurd e2 turns_calm
  | ok pp =>
  obtain ⟨accF, mF⟩ := pp
  rw [e2] at h
  simp only [Res.bind_ok] at h
  obtain ⟨gl, sl, kl⟩ := gs_lay g1 hp (lst_ownd [])
  obtain ⟨Ac, rc, sc⟩ := hR1.clr t.slots
  refine ⟨fun i n H => n = ds.length - i ∧ ∃ m F A acc accV T, LI K w own t cond elt (pu && pc) ds σ A1 F1 H1 p accF mF i H m F A acc accV T, ⟨ds.length, by simp, m1, F1, Ac, [], [], [], ?_⟩, ?_⟩
  · refine ⟨Nat.zero_le _, e2, (rc.keep (Same.refl F1) fun a ha => kl a (sc.subset ha)).agree (agree_wipe _ _), gl.sub' (sc.append_right _), sl.mem (fun _ h => h) (fun a ha => .inl ?_), upd_same, rfl, fun _ => rfl, fun _ => same_new hp⟩
    exact (sc.append_right [p]).subset ha
  rintro i n H ⟨rfl, m, F, A, acc, accV, T, L⟩
  have sG : Same (if (pu && pc) = true then H1 else F1) H := by
    cases e : (pu && pc) with
    | false => exact L.st.ff.trans L.gs.sub
    | true => exact L.sm e
  by_cases hlt : i < ds.length
  · right
    refine ⟨ok.go i H sG hlt, fun H' => ∃ m F A acc accV T, LI K w own t cond elt (pu && pc) ds σ A1 F1 H1 p accF mF (i + 1) H' m F A acc accV T, fun H' q => ⟨ds.length - (i + 1), by omega, rfl, q⟩, fun x H2 y => ?_⟩
    obtain ⟨F2, s2, sf2, sh2, rx⟩ := ok.yld i H x H2 F _ sG L.st.ff L.gs.sub y (List.getElem?_eq_getElem hlt)
    have run := L.run
    rw [List.drop_eq_getElem_cons hlt] at run
    simp only [turns] at run
    cases ep : t.put ds[i] (clr m t.slots) with
    | none => rw [ep] at run; cases run
    | some mp =>
    rw [ep] at run
    simp only at run
    obtain ⟨g2, st2, k2⟩ := carry (A := []) (A' := []) (S := A ++ p :: T) (by simpa using L.gs) s2 (gs_nil sf2)
    simp only [List.nil_append] at g2 st2
    have rs2 := L.rs.keep s2.ff fun a ha => k2 a (List.mem_append_left _ ha)
    refine ⟨clr m t.slots, F2, A, ds[i], mp, rs2, sf2, rx, ep, fun σ2 A2 r2 sub2 ag => ⟨?_, ?_⟩⟩
    · rw [ag.wipe]
      exact (agree_wipe t.slots σ).wipe
    have ag' : Agree t.slots σ2 (wipe σ t.slots) := ⟨ag.1.symm, fun j hj => (ag.2 j hj).symm⟩
    have g2' : GS F2 H2 (A2 ++ p :: T) := g2.sub' (sub2.append_right _)
    have st2' : Stp A1 F1 H1 (A2 ++ p :: T) F2 H2 := L.st.trans (st2.mem (fun _ h => h) fun a ha => .inl ((sub2.append_right _).subset ha))
    cases ec : cond mp with
    | bad => rw [ec] at run; cases run
    | er c z => rw [ec] at run; cases run
    | ok pp =>
    obtain ⟨b, m2⟩ := pp
    refine ⟨mp, F2, A2, r2, g2'.left, ?_⟩
    rw [ec]
    rw [ec] at run
    rintro H3 ⟨F3, A3, r3, g3, s3, p3⟩
    obtain ⟨g3', st3, k3⟩ := carry g2' s3 g3
    have st3' := st2'.trans st3
    have pT : ∀ a ∈ p :: T, H3 a = H a := fun a ha => (k3 a ha).trans (k2 a (List.mem_append_right _ ha))
    have ff3 : Same F F3 := s2.ff.trans s3.ff
    cases b with
    | false =>
      simp only at run
      rw [if_neg Bool.false_ne_true]
      obtain ⟨Ad, rd, sd⟩ := r3.clr t.slots
      refine ⟨m2, F3, Ad, acc, accV, T, hlt, run, rd.agree ag', g3'.sub' (sd.append_right _), st3'.mem (fun _ h => h) (fun a ha => .inl ((sd.append_right _).subset ha)), ?_, L.rm.keep ff3 fun a ha => pT a (List.mem_cons_of_mem _ ha), L.pur, fun e => ?_⟩
      · rw [pT p List.mem_cons_self]
        exact L.at'
      · exact ((L.sm e).trans sh2).trans (p3 (Bool.and_eq_true_iff.mp e).2)
    | true =>
      simp only at run
      rw [if_pos rfl]
      refine ⟨m2, F3, A3, r3, g3, ?_⟩
      cases ee : elt m2 with
      | bad => rw [ee] at run; cases run
      | er c z => rw [ee] at run; cases run
      | ok pp =>
      obtain ⟨r, m3⟩ := pp
      rw [ee] at run
      simp only at run
      show ∀ x H', EvP K w pu F3 H3 A3 σ2 r m3 x H' → _
      rintro y H4 ⟨F4, A4, T4, r4, g4, s4, rr, p4⟩
      cases ek : keepM own r with
      | none => rw [ek] at run; cases run
      | some kk =>
      rw [ek] at run
      simp only at run
      by_cases hz : acc.length < big
      · rw [if_pos hz] at run
        obtain ⟨g4', st4, k4⟩ := carry g3' s4 g4
        obtain ⟨F5, T5, st5, g5, sf5, rm5, pr5⟩ := keep_of g4' rr ek
        have pT4 : ∀ a ∈ p :: T, H4 a = H a := fun a ha => (k4 a ha).trans (pT a ha)
        obtain ⟨w1, w2, w3⟩ := own_write (o := .lst (accV ++ [y])) (A1 := A4) (A2 := [p]) (A3 := T ++ T5) (by simpa using g5) (List.mem_singleton.mpr rfl) (lst_ownd _)
        have ff5 : Same F F5 := (ff3.trans s4.ff).trans sf5
        obtain ⟨Ad, rd, sd⟩ := (r4.keep sf5 fun a ha => w3 a (List.mem_append_left _ ha)).clr t.slots
        refine ⟨accV, ?_, ?_, m3, F5, Ad, acc ++ [kk], accV ++ [y], T ++ T5, hlt, run, rd.agree ag', ?_, ?_, upd_same, ?_, fun e => ?_, fun e => ?_⟩
        · rw [pT4 p List.mem_cons_self]
          exact L.at'
        · rw [L.rm.len]
          exact hz
        · have : GS F5 (upd H4 p (.lst (accV ++ [y]))) (A4 ++ p :: (T ++ T5)) := by simpa using w1
          exact this.sub' (sd.append_right _)
        · have z : Stp A1 F1 H1 (A4 ++ [p] ++ (T ++ T5)) F5 (upd H4 p (.lst (accV ++ [y]))) := ((st3'.trans st4).trans (by simpa using st5)).trans w2
          refine z.mem (fun _ h => h) fun a ha => .inl ?_
          have := (sd.append_right (p :: (T ++ T5))).subset ha
          simpa using this
        · refine (L.rm.keep ff5 fun a ha => ?_).app (B := T5) ?_
          · rw [w3 a (List.mem_append_right _ (List.mem_append_left _ ha)), pT4 a (List.mem_cons_of_mem _ ha)]
          · simp only [RMs]
            exact ⟨T5, [], rm5.keep (Same.refl F5) fun a ha => w3 a (List.mem_append_right _ (List.mem_append_right _ ha)), rfl, by simp⟩
        · obtain ⟨z, rfl⟩ := pr5 e
          exact isDs_app (L.pur e)
        · have e' := Bool.and_eq_true_iff.mp e
          have z := (((L.sm e).trans sh2).trans (p3 e'.2)).trans (p4 e'.1)
          intro a o ha
          rw [upd_ne fun q => by rw [q, hp] at ha; cases ha]
          exact z a o ha
      · rw [if_neg hz] at run
        cases run
  · left
    have ei : i = ds.length := by have := L.le; omega
    refine ⟨ok.stop i H sG (by omega), h _ _ ⟨F, A, p :: T, ?_, L.gs, s1.trans L.st, ?_, fun e => ?_⟩⟩
    · have run := L.run
      rw [List.drop_of_length_le (by omega)] at run
      simp only [turns, Res.ok.injEq, Prod.mk.injEq] at run
      rw [← run.2]
      refine rs_back (L.rs.agree ?_) hR1 L.st.ff
      have ag := agree_wipe t.slots σ
      exact ⟨ag.1.symm, fun j hj => (ag.2 j hj).symm⟩
    · have run := L.run
      rw [List.drop_of_length_le (by omega)] at run
      simp only [turns, Res.ok.injEq, Prod.mk.injEq] at run
      rw [← run.1]
      show RM K w F H (.ref p) (listM own acc) (p :: T)
      unfold listM
      cases own with
      | true =>
        simp only [if_true, RM]
        exact ⟨p, accV, T, rfl, L.at', L.rm, rfl⟩
      | false =>
        obtain ⟨q, rfl⟩ := rms_pure L.rm (L.pur rfl)
        simp only [Bool.false_eq_true, if_false, RM]
        exact ⟨p, accV, rfl, L.at', q, rfl⟩
    · have e' := Bool.and_eq_true_iff.mp e
      exact (q1 e'.1).trans (L.sm e'.2)
end
section
variable {X : Cx} {k : Nat} {fs : List (Str × Nat)} {cf : CfT} {cs : Str → Option D} {W : WX}
theorem cond_nil {X : Cx} : PTs X [] (tCond X.K X.w true fun m => .ok (true, m)) := ⟨fun pins s σ H Q I h => pts_nil.run pins s σ H Q I (by
  obtain ⟨m, F, A, hR, hG, h⟩ := h
  exact h H ⟨F, A, hR, hG, Stp.refl, fun _ => Same.refl H⟩)⟩
def condF (fc : EvF) : Sl → Res (Bool × Sl) := fun m => (fc m).bind fun (r, m1) => match r.m.bl? with
  | some b => .ok (b, m1)
  | none => .bad
theorem cond_one {X : Cx} {c : Expr} {pc : Bool} {fc : EvF} (h : ST X W0 pc c fc) : PTs X [c] (tCond X.K X.w pc (condF fc)) := ⟨fun pins s σ H Q I q => (pts_one h).run pins s σ H Q I (by
  obtain ⟨m, F, A, hR, hG, q⟩ := q
  refine ⟨m, F, A, hR, hG, ?_⟩
  unfold condF at q
  cases e : fc m with
  | bad => rw [e] at q; exact q.elim
  | er c x => rw [e] at q; exact q.elim
  | ok pp =>
    obtain ⟨r, m1⟩ := pp
    rw [e] at q
    simp only [Res.bind_ok] at q
    cases eb : r.m.bl? with
    | none => rw [eb] at q; exact q.elim
    | some b =>
      rw [eb] at q
      simp only at q
      show ∀ x H', EvP X.K X.w pc F H A σ r m1 x H' → _
      rintro x H1 ⟨F1, A1, T1, r1, g1, s1, rr, p1⟩
      exact ⟨b, rr.bl eb, q H1 ⟨F1, A1, r1, g1.left, s1.mem (fun _ h => h) fun a ha => .inl (List.mem_append_left _ ha), p1⟩⟩)⟩
abbrev blkX (X : Cx) (s : Shared) (H : Hp) (scope : Scope) (C : Addr) (cl : List (Str × Addr)) (fp : List Addr) : Cx := X.blk s H scope (compEnvC scope cl C X.env) fp
theorem pg_blk (hc : X.calm = true) (hN : X.N.Nodup) {scope : Scope} {t : Tg} {tg : Expr} (h : Tg.chk X.N true scope t tg = true) (s : Shared) (H : Hp) (C : Addr) (cl : List (Str × Addr)) (fp : List Addr) : PG (blkX X s H scope C cl fp) tg (gT X.K X.w t) := by
  refine pg_T (X := blkX X s H scope C cl fp) (sc := scope) (fn := true) hc hN (fun x k hk e => ?_) (fun _ x e => ?_) h
  · exact lookup_relS_keep hk e
  · show (scope.names.lookup x == some .cell) = true
    rw [e]
    rfl
theorem se_comp (C : Ctx X k fs cf cs W) {own : Bool} {t : Tg} {tg iter e : Expr} {ifs : List Expr} {scope sc : Scope} {pos : Pos} {ow : List (Str × Nat)} {p0 pu pc : Bool} {src : Sl → Res (List D × Sl)} {cond : Sl → Res (Bool × Sl)} {elt : EvF}
    (hs : X.env.scope = sc) (hi : SI X W p0 (pu && pc) tg iter src) (ht : Tg.chk X.N true scope t tg = true) (hb : blkC X.N sc scope ow = true) (how : ow.map (·.2) = t.slots) (ok : okE iter = true)
    (hcd : ∀ s H C cl fp, PTs (blkX X s H scope C cl fp) ifs (tCond X.K X.w pc cond)) (he : ∀ s H C cl fp, SE (blkX X s H scope C cl fp) W0 pu e elt) :
    SE X W (p0 && (pu && pc)) (.ListComp e [⟨tg, iter, ifs, 0⟩] scope pos) (compF own t cond elt src) := by
  subst hs
  refine pe_imp (pe_lc (te := tE X.K X.w X.mg W0 pu elt) C.calm C.nd hi (blkOk_by hb) (pg_blk C.calm C.nd ht) hcd he (no_fold ok)) fun σ H Q q => ?_
  rw [how]
  exact lc_read q
end
end Oa

/-! Part 18: calls. -/
namespace Oa
open PySem PySem.Spec PyProof.Rows L2
section
variable {K : PySem.W.Frag} {w : World} {mg : Str → Option Value} {W : WX}
/-- the operands of a call -/
def AR (K : PySem.W.Frag) (w : World) (F H : Hp) (σ : L2.St) : List V → List Arg → List Addr → Prop
  | [], [], T => T = []
  | x :: xs, .r r :: as, T => ∃ T1 T2, RR K w F H x r T1 ∧ AR K w F H σ xs as T2 ∧ T = T1 ++ T2
  | x :: xs, .w i :: as, T => σ[i]? = some (some x) ∧ AR K w F H σ xs as T
  | _, _, _ => False
def ArP (K : PySem.W.Frag) (w : World) (pu : Bool) (F H : Hp) (A : List Addr) (σ : L2.St) (as : List Arg) (m' : Sl) (xs : List V) (H' : Hp) : Prop :=
  ∃ F' A' T, RS K w F' H' σ m' A' ∧ GS F' H' (A' ++ T) ∧ Stp A F H (A' ++ T) F' H' ∧ AR K w F' H' σ xs as T ∧ (pu = true → Same H H')
def tAr (K : PySem.W.Frag) (w : World) (mg : Str → Option Value) (W : WX) (pu : Bool) (f : Sl → Res (List Arg × Sl)) : TA := fun σ H Q => ∃ m F A, RS K w F H σ m A ∧ GS F H A ∧ match f m with
  | .ok (as, m') => ∀ xs H', ArP K w pu F H A σ as m' xs H' → Q xs H'
  | .er c x => ∀ cls d H', ErP mg A H c x cls d H' → W cls d σ H'
  | .bad => False
def arNil : Sl → Res (List Arg × Sl) := fun m => .ok ([], m)
def arR (pb : Bool) (fa : EvF) (fs : Sl → Res (List Arg × Sl)) : Sl → Res (List Arg × Sl) := fun m => (fa m).bind fun (r, m1) => (fs m1).bind fun (as, m2) => if (r.isB && !pb) = true then .bad else .ok (.r r :: as, m2)
def arW (i : Nat) (fs : Sl → Res (List Arg × Sl)) : Sl → Res (List Arg × Sl) := fun m => match m[i]? with
  | some (some _) => (fs m).bind fun (as, m2) => .ok (.w i :: as, m2)
  | _ => .bad
theorem tAr_nil {σ : L2.St} {H : Hp} {Q : List V → Hp → Prop} {pu : Bool} (h : tAr K w mg W pu arNil σ H Q) : Q [] H := by
  obtain ⟨m, F, A, hR, hG, h⟩ := h
  exact h [] H ⟨F, A, [], hR, by simpa using hG, by simpa using Stp.refl, rfl, fun _ => Same.refl H⟩
theorem tAr_r {σ : L2.St} {H : Hp} {Q : List V → Hp → Prop} {pa pb : Bool} {fa : EvF} {fs : Sl → Res (List Arg × Sl)} (h : tAr K w mg W (pa && pb) (arR pb fa fs) σ H Q) :
    tE K w mg W pa fa σ H fun x H1 => tAr K w mg W pb fs σ H1 fun xs H2 => Q (x :: xs) H2 := by
  obtain ⟨m, F, A, hR, hG, h⟩ := h
  refine ⟨m, F, A, hR, hG, ?_⟩
  unfold arR at h
  cases e1 : fa m with
  | bad => rw [e1] at h; exact h.elim
  | er c x => rw [e1] at h; exact h
  | ok p =>
    obtain ⟨r, m1⟩ := p
    rw [e1] at h
    simp only [Res.bind_ok] at h
    show ∀ x H', EvP K w pa F H A σ r m1 x H' → _
    rintro x H1 ⟨F1, A1, T1, hR1, g1, s1, r1, p1⟩
    refine ⟨m1, F1, A1, hR1, g1.left, ?_⟩
    cases e2 : fs m1 with
    | bad => rw [e2] at h; exact h.elim
    | er c y =>
      rw [e2] at h
      intro cls d H' q
      exact h cls d H' ((q.less (A := A1 ++ T1) fun a ha => List.mem_append_left _ ha).back s1)
    | ok p =>
      obtain ⟨as, m2⟩ := p
      rw [e2] at h
      simp only [Res.bind_ok] at h
      show ∀ xs H', ArP K w pb F1 H1 A1 σ as m2 xs H' → _
      rintro xs H2 ⟨F2, A2, T2, hR2, g2, s2, r2, p2⟩
      cases hb : (r.isB && !pb) with
      | true => rw [hb, if_pos rfl] at h; exact h.elim
      | false =>
        rw [hb, if_neg Bool.false_ne_true] at h
        obtain ⟨g3, s3, r3⟩ := two_step g1 s1 r1 hb g2 s2 p2
        exact h (x :: xs) H2 ⟨F2, A2, T1 ++ T2, hR2, g3, s3, ⟨T1, T2, r3, r2, rfl⟩, fun e => by
          rw [Bool.and_eq_true] at e
          exact (p1 e.1).trans (p2 e.2)⟩
theorem tAr_w {σ : L2.St} {H : Hp} {Q : List V → Hp → Prop} {i : Nat} {pb : Bool} {fs : Sl → Res (List Arg × Sl)} (h : tAr K w mg W false (arW i fs) σ H Q) :
    ∃ u, σ[i]? = some (some u) ∧ tAr K w mg W pb fs σ H fun xs H2 => Q (u :: xs) H2 := by
  obtain ⟨m, F, A, hR, hG, h⟩ := h
  unfold arW at h
  cases em : m[i]? with
  | none => rw [em] at h; exact h.elim
  | some o => cases o with
    | none => rw [em] at h; exact h.elim
    | some kk =>
      rw [em] at h
      simp only at h
      obtain ⟨u, A1, A2, A3, g1, _, _, _, _⟩ := hR.at em
      refine ⟨u, g1, m, F, A, hR, hG, ?_⟩
      cases e2 : fs m with
      | bad => rw [e2] at h; exact h.elim
      | er c y => rw [e2] at h; exact h
      | ok p =>
        obtain ⟨as, m2⟩ := p
        rw [e2] at h
        simp only [Res.bind_ok] at h
        show ∀ xs H', ArP K w pb F H A σ as m2 xs H' → _
        rintro xs H2 ⟨F2, A2, T2, hR2, g2, s2, r2, p2⟩
        exact h (u :: xs) H2 ⟨F2, A2, T2, hR2, g2, s2, ⟨g1, r2⟩, fun e => by cases e⟩
theorem AR.len {F H : Hp} {σ : L2.St} : ∀ {as : List Arg} {xs : List V} {T : List Addr}, AR K w F H σ xs as T → xs.length = as.length
  | [], [], _, _ => rfl
  | [], _ :: _, _, h => by simp only [AR] at h
  | _ :: _, [], _, h => by simp only [AR] at h
  | .w i :: as, x :: xs, T, h => by
    simp only [AR] at h
    simp [AR.len h.2]
  | .r r :: as, x :: xs, T, h => by
    simp only [AR] at h
    obtain ⟨T1, T2, h1, h2, rfl⟩ := h
    simp [AR.len h2]
/-- the operands, as they are handed on -/
def AH (K : PySem.W.Frag) (w : World) (F H : Hp) (σ : L2.St) : List V → List Arg → Prop
  | [], [] => True
  | x :: xs, .r r :: as => (handOk r = true → RM K w F H x (handM r) []) ∧ AH K w F H σ xs as
  | x :: xs, .w i :: as => σ[i]? = some (some x) ∧ AH K w F H σ xs as
  | _, _ => False
theorem hand_o {F H : Hp} {x : V} {kk : M} {T : List Addr} (s : Same F H) (h : RM K w F H x kk T) (ok : handOk (.o kk) = true) : RM K w (frz F H T) H x (handM (.o kk)) [] := by
  cases kk with
  | s xs =>
    have hm : handM (.o (.s xs)) = .s xs := rfl
    rw [hm]
    have := h.keep (frz_sub (F := F) (H := H) (A := T)) (H' := H) fun _ _ => rfl
    simp only [RM] at this ⊢
    obtain ⟨a, vs, h1, h2, h3, _⟩ := this
    exact ⟨a, vs, h1, h2, h3, trivial⟩
  | d y => simp only [handM, RM]; exact ⟨RM.frz h ok s, trivial⟩
  | v y => simp only [handM, RM]; exact ⟨RM.frz h ok s, trivial⟩
  | l y => simp only [handM, RM]; exact ⟨RM.frz h ok s, trivial⟩
  | m y => simp only [handM, RM]; exact ⟨RM.frz h ok s, trivial⟩
  | t y => simp only [handM, RM]; exact ⟨RM.frz h ok s, trivial⟩
  | g y z => simp only [handM, RM]; exact ⟨RM.frz h ok s, trivial⟩
theorem hand_b {F H : Hp} {x : V} {kk : M} {B : List Addr} (s : Same F H) (h : RM K w F H x kk B) (ok : handOk (.b kk) = true) : RM K w H H x (handM (.b kk)) [] := by
  cases kk with
  | s xs =>
    have hm : handM (.b (.s xs)) = .s xs := rfl
    rw [hm]
    simp only [RM] at h ⊢
    obtain ⟨a, vs, h1, h2, h3, _⟩ := h
    exact ⟨a, vs, h1, s.seq h2, h3.mono s, trivial⟩
  | d y => simp only [handM, RM]; exact ⟨RM.read h ok s, trivial⟩
  | v y => simp only [handM, RM]; exact ⟨RM.read h ok s, trivial⟩
  | l y => simp only [handM, RM]; exact ⟨RM.read h ok s, trivial⟩
  | m y => simp only [handM, RM]; exact ⟨RM.read h ok s, trivial⟩
  | t y => simp only [handM, RM]; exact ⟨RM.read h ok s, trivial⟩
  | g y z => simp only [handM, RM]; exact ⟨RM.read h ok s, trivial⟩
theorem ah_frz {F H : Hp} {σ : L2.St} (s : Same F H) {T' : List Addr} : ∀ {xs : List V} {as : List Arg} {T : List Addr}, AR K w F H σ xs as T → (∀ a ∈ T, a ∈ T') → looks as = false → AH K w (frz F H T') H σ xs as
  | [], [], _, _, _, _ => trivial
  | [], _ :: _, _, h, _, _ => by simp only [AR] at h
  | _ :: _, [], _, h, _, _ => by simp only [AR] at h
  | x :: xs, .w i :: as, T, h, sub, lk => by
    simp only [AR] at h
    exact ⟨h.1, ah_frz s h.2 sub (by simpa only [looks] using lk)⟩
  | x :: xs, .r (.o kk) :: as, T, h, sub, lk => by
    simp only [AR] at h
    obtain ⟨T1, T2, h1, h2, rfl⟩ := h
    exact ⟨fun ok => (hand_o s h1 ok).keep (frz_mono s fun a ha => sub a (List.mem_append_left _ ha)) fun _ _ => rfl, ah_frz s h2 (fun a ha => sub a (List.mem_append_right _ ha)) (by simpa only [looks] using lk)⟩
  | x :: xs, .r (.b (.d y)) :: as, T, h, sub, lk => by
    simp only [AR] at h
    obtain ⟨T1, T2, h1, h2, rfl⟩ := h
    refine ⟨fun ok => ?_, ah_frz s h2 (fun a ha => sub a (List.mem_append_right _ ha)) (by simpa only [looks] using lk)⟩
    obtain ⟨_, B, hB⟩ := h1
    simp only [RM] at hB
    show RM K w (frz F H T') H x (.d y) []
    simp only [RM]
    exact ⟨hB.1.mono frz_sub, trivial⟩
  | x :: xs, .r (.b (.v y)) :: as, T, h, sub, lk => by simp [looks] at lk
  | x :: xs, .r (.b (.l y)) :: as, T, h, sub, lk => by simp [looks] at lk
  | x :: xs, .r (.b (.m y)) :: as, T, h, sub, lk => by simp [looks] at lk
  | x :: xs, .r (.b (.t y)) :: as, T, h, sub, lk => by simp [looks] at lk
  | x :: xs, .r (.b (.s y)) :: as, T, h, sub, lk => by
    simp only [AR] at h
    obtain ⟨T1, T2, h1, h2, rfl⟩ := h
    refine ⟨fun ok => ?_, ah_frz s h2 (fun a ha => sub a (List.mem_append_right _ ha)) (by simpa only [looks] using lk)⟩
    obtain ⟨_, B, hB⟩ := h1
    simp only [RM] at hB
    obtain ⟨a, vs, q1, q2, q3, _⟩ := hB
    show RM K w (frz F H T') H x (.s y) []
    simp only [RM]
    exact ⟨a, vs, q1, (frz_sub (F := F) (H := H) (A := T')).seq q2, q3.mono frz_sub, trivial⟩
theorem ah_all {F H : Hp} {σ : L2.St} (s : Same F H) : ∀ {xs : List V} {as : List Arg} {T : List Addr}, AR K w F H σ xs as T → AH K w H H σ xs as
  | [], [], _, _ => trivial
  | [], _ :: _, _, h => by simp only [AR] at h
  | _ :: _, [], _, h => by simp only [AR] at h
  | x :: xs, .w i :: as, T, h => by
    simp only [AR] at h
    exact ⟨h.1, ah_all s h.2⟩
  | x :: xs, .r (.o kk) :: as, T, h => by
    simp only [AR] at h
    obtain ⟨T1, T2, h1, h2, rfl⟩ := h
    exact ⟨fun ok => (hand_o s h1 ok).keep (frz_below s) fun _ _ => rfl, ah_all s h2⟩
  | x :: xs, .r (.b kk) :: as, T, h => by
    simp only [AR] at h
    obtain ⟨T1, T2, h1, h2, rfl⟩ := h
    obtain ⟨_, B, hB⟩ := h1
    exact ⟨fun ok => hand_b s hB ok, ah_all s h2⟩
theorem ah_keep {F H F' H' : Hp} {σ : L2.St} (s : Same F F') : ∀ {xs : List V} {as : List Arg}, AH K w F H σ xs as → AH K w F' H' σ xs as
  | [], [], _ => trivial
  | [], _ :: _, h => by simp only [AH] at h
  | _ :: _, [], h => by simp only [AH] at h
  | x :: xs, .w i :: as, h => by
    simp only [AH] at h ⊢
    exact ⟨h.1, ah_keep s h.2⟩
  | x :: xs, .r r :: as, h => by
    simp only [AH] at h ⊢
    exact ⟨fun ok => (h.1 ok).keep s (fun _ z => (by cases z)), ah_keep s h.2⟩
theorem hand_ok {F H : Hp} {σ : L2.St} : ∀ {as : List Arg} {xs : List V} {m m' : Sl} {ks : List M} {A : List Addr}, AH K w F H σ xs as → RS K w F H σ m A → hand as m = some (ks, m') → ∃ Aw Ar, RMs K w F H xs ks Aw ∧ RS K w F H σ m' Ar ∧ (Aw ++ Ar).Perm A ∧ (hasW as = false → Aw = [])
  | [], [], m, m', ks, A, _, hR, e => by
    simp only [hand, Option.some.injEq, Prod.mk.injEq] at e
    obtain ⟨rfl, rfl⟩ := e
    exact ⟨[], A, rfl, hR, .refl _, fun _ => rfl⟩
  | [], _ :: _, _, _, _, _, h, _, _ => by simp only [AH] at h
  | _ :: _, [], _, _, _, _, h, _, _ => by simp only [AH] at h
  | .r r :: as, x :: xs, m, m', ks, A, h, hR, e => by
    simp only [AH] at h
    simp only [hand] at e
    split at e
    · rename_i ok
      simp only [Option.map_eq_some_iff] at e
      obtain ⟨⟨ks0, m0⟩, e1, e2⟩ := e
      simp only [Prod.mk.injEq] at e2
      obtain ⟨rfl, rfl⟩ := e2
      obtain ⟨Aw, Ar, h1, h2, h3, h4⟩ := hand_ok h.2 hR e1
      exact ⟨Aw, Ar, by simp only [RMs]; exact ⟨[], Aw, h.1 ok, h1, rfl⟩, h2, h3, fun e => h4 (by simpa only [hasW] using e)⟩
    · cases e
  | .w i :: as, x :: xs, m, m', ks, A, h, hR, e => by
    simp only [AH] at h
    simp only [hand] at e
    split at e
    · rename_i kk em
      simp only [Option.map_eq_some_iff] at e
      obtain ⟨⟨ks0, m0⟩, e1, e2⟩ := e
      simp only [Prod.mk.injEq] at e2
      obtain ⟨rfl, rfl⟩ := e2
      obtain ⟨u, A1, A2, A3, g1, rfl, g3, _, g5⟩ := hR.at em
      rw [h.1] at g1
      cases g1
      obtain ⟨Aw, Ar, h1, h2, h3, _⟩ := hand_ok h.2 (g5 F H (Same.refl F) fun _ _ => rfl) e1
      refine ⟨A2 ++ Aw, Ar, by simp only [RMs]; exact ⟨A2, Aw, g3, h1, rfl⟩, h2, ?_, fun e => (by simp [hasW] at e)⟩
      have p1 : (A2 ++ (Aw ++ Ar)).Perm (A2 ++ (A1 ++ A3)) := h3.append_left A2
      have p2 : (A2 ++ (A1 ++ A3)).Perm (A1 ++ A2 ++ A3) := by
        rw [← List.append_assoc]
        exact (List.perm_append_comm).append_right A3
      rw [List.append_assoc]
      exact p1.trans p2
    · cases e
theorem rs_put {F H : Hp} {σ : L2.St} {m : Sl} {A B : List Addr} {i : Nat} {u : V} {kk : M} (hR : RS K w F H σ m A) (hi : i < m.length) (hu : σ[i]? = some (some u)) (hk : RM K w F H u kk B) : ∃ A2 l, RS K w F H σ (m.set i (some kk)) A2 ∧ (A2 ++ l).Perm (A ++ B) := by
  obtain ⟨A1, A3, ⟨B0, rfl⟩, h⟩ := hR.put hi
  have := h F H u kk B (Same.refl F) (fun _ _ => rfl) hk
  rw [set_same hu] at this
  refine ⟨A1 ++ B ++ A3, B0, this, ?_⟩
  have p1 : (A1 ++ B ++ A3 ++ B0).Perm (A1 ++ (B ++ (B0 ++ A3))) := by
    rw [List.append_assoc, List.append_assoc]
    exact ((List.perm_append_comm).append_left B).append_left A1
  have p2 : (A1 ++ (B ++ (B0 ++ A3))).Perm (A1 ++ B0 ++ A3 ++ B) := by
    rw [List.append_assoc, List.append_assoc]
    refine List.Perm.append_left A1 ?_
    rw [← List.append_assoc B0 A3 B]
    exact List.perm_append_comm
  exact p1.trans p2
theorem give_ok {F H : Hp} {σ : L2.St} : ∀ {as : List Arg} {xs : List V} {m m2 : Sl} {ks : List M} {A Ar : List Addr}, AH K w F H σ xs as → RMs K w F H xs ks A → RS K w F H σ m Ar → give as ks m = some m2 → ∃ A2 l, RS K w F H σ m2 A2 ∧ (A2 ++ l).Perm (Ar ++ A)
  | [], [], m, m2, [], A, Ar, _, hm, hR, e => by
    simp only [give, Option.some.injEq] at e
    subst e
    simp only [RMs] at hm
    subst hm
    exact ⟨Ar, [], hR, by simp⟩
  | [], _ :: _, _, _, _, _, _, h, _, _, _ => by simp only [AH] at h
  | _ :: _, [], _, _, _, _, _, h, _, _, _ => by simp only [AH] at h
  | [], [], _, _, _ :: _, _, _, _, hm, _, _ => by simp only [RMs] at hm
  | _ :: _, _ :: _, _, _, [], _, _, _, hm, _, _ => by simp only [RMs] at hm
  | .r r :: as, x :: xs, m, m2, kk :: ks, A, Ar, h, hm, hR, e => by
    simp only [AH] at h
    simp only [RMs] at hm
    obtain ⟨A1, A3, h1, h2, rfl⟩ := hm
    simp only [give] at e
    obtain ⟨A2, l, g1, g2⟩ := give_ok h.2 h2 hR e
    refine ⟨A2, l ++ A1, g1, ?_⟩
    have p1 : (A2 ++ (l ++ A1)).Perm (Ar ++ A3 ++ A1) := by
      rw [← List.append_assoc]
      exact g2.append_right A1
    refine p1.trans ?_
    rw [List.append_assoc]
    exact (List.perm_append_comm).append_left Ar
  | .w i :: as, x :: xs, m, m2, kk :: ks, A, Ar, h, hm, hR, e => by
    simp only [AH] at h
    simp only [RMs] at hm
    obtain ⟨A1, A3, h1, h2, rfl⟩ := hm
    simp only [give] at e
    have hi : i < m.length := by
      rw [← hR.length]
      exact (List.getElem?_eq_some_iff.mp h.1).1
    obtain ⟨B2, l, g1, g2⟩ := rs_put hR hi h.1 h1
    obtain ⟨A2, l2, k1, k2⟩ := give_ok h.2 h2 g1 e
    refine ⟨A2, l2 ++ l, k1, ?_⟩
    have p1 : (A2 ++ (l2 ++ l)).Perm (B2 ++ A3 ++ l) := by
      rw [← List.append_assoc]
      exact k2.append_right l
    have p2 : (B2 ++ A3 ++ l).Perm (B2 ++ l ++ A3) := by
      rw [List.append_assoc, List.append_assoc]
      exact (List.perm_append_comm).append_left B2
    have p3 : (B2 ++ l ++ A3).Perm (Ar ++ (A1 ++ A3)) := by
      rw [← List.append_assoc]
      exact g2.append_right A3
    exact p1.trans (p2.trans p3)
end
end Oa

/-! Part 19: calls, joined. -/
namespace Oa
open PySem PySem.Spec PyProof.Rows L2
section
variable {K : PySem.W.Frag} {w : World} {mg : Str → Option Value} {W : WX}
mutual
theorem flat_mono {F F' : Hp} (hT : ∀ a u xs, F a = some u → tpOf u = some xs → F' a = some u) : ∀ {d : D} {x : V}, flatD d = true → RepD K w F x d → RepD K w F' x d
  | .none, _, _, h => by simpa only [RepD] using h
  | .bool _, _, _, h => by simpa only [RepD] using h
  | .int _, _, _, h => by simpa only [RepD] using h
  | .str _, _, _, h => by simpa only [RepD] using h
  | .tuple ds, _, e, h => by
    simp only [flatD] at e
    simp only [RepD] at h ⊢
    obtain ⟨a, vs, h1, h2, h3⟩ := h
    refine ⟨a, vs, h1, ?_, flats_mono hT e h3⟩
    rcases h2 with h2 | h2
    · obtain ⟨u, h2, h4⟩ := h2
      exact .inl ⟨u, hT _ _ _ h2 h4, h4⟩
    · exact .inr h2
  | .list _, _, e, _ => by simp [flatD] at e
  | .dict _, _, e, _ => by simp [flatD] at e
theorem flats_mono {F F' : Hp} (hT : ∀ a u xs, F a = some u → tpOf u = some xs → F' a = some u) : ∀ {ds : List D} {xs : List V}, flatDs ds = true → RepDs K w F xs ds → RepDs K w F' xs ds
  | [], [], _, _ => trivial
  | [], _ :: _, _, h => by simp only [RepDs] at h
  | _ :: _, [], _, h => by simp only [RepDs] at h
  | d :: ds, x :: xs, e, h => by
    simp only [flatDs, Bool.and_eq_true] at e
    simp only [RepDs] at h ⊢
    exact ⟨flat_mono hT e.1 h.1, flats_mono hT e.2 h.2⟩
end
theorem flatKs_mono {F F' : Hp} (hT : ∀ a u xs, F a = some u → tpOf u = some xs → F' a = some u) : ∀ {kvs : List (D × D)} {ns : List En}, flatKs kvs = true → RepKs K w F ns kvs → RepKs K w F' ns kvs
  | [], [], _, h => trivial
  | [], _ :: _, _, h => by simp only [RepKs] at h
  | _ :: _, [], _, h => by simp only [RepKs] at h
  | (a, b) :: r, n :: ns, e, h => by
    simp only [flatKs, Bool.and_eq_true] at e
    simp only [RepKs] at h ⊢
    exact ⟨⟨h.1.1, flat_mono hT e.1.1 h.1.2.1, flat_mono hT e.1.2 h.1.2.2⟩, flatKs_mono hT e.2 h.2⟩
mutual
theorem apart_mono {F F' H : Hp} (hT : ∀ a u xs, F a = some u → tpOf u = some xs → F' a = some u) : ∀ {m : M} {x : V} {A : List Addr}, m.apart = true → RM K w F H x m A → RM K w F' H x m A
  | .d y, _, _, e, h => by
    simp only [M.apart] at e
    simp only [RM] at h ⊢
    exact ⟨flat_mono hT e h.1, h.2⟩
  | .v ds, _, _, e, h => by
    simp only [M.apart] at e
    simp only [RM] at h ⊢
    obtain ⟨b, vs, h1, hb, h2, rfl⟩ := h
    exact ⟨b, vs, h1, hb, flats_mono hT e h2, rfl⟩
  | .l ms, _, _, e, h => by
    simp only [M.apart] at e
    simp only [RM] at h ⊢
    obtain ⟨b, vs, B, h1, hb, hs, rfl⟩ := h
    exact ⟨b, vs, B, h1, hb, aparts_mono hT e hs, rfl⟩
  | .m ds, _, _, e, h => by
    simp only [M.apart] at e
    simp only [RM] at h ⊢
    obtain ⟨b, vs, h1, hb, h3, h2, rfl⟩ := h
    exact ⟨b, vs, h1, hb, h3, flatKs_mono hT e h2, rfl⟩
  | .s _, _, _, e, _ => by simp [M.apart] at e
  | .t _, _, _, e, _ => by simp [M.apart] at e
  | .g _ _, _, _, e, _ => by simp [M.apart] at e
theorem aparts_mono {F F' H : Hp} (hT : ∀ a u xs, F a = some u → tpOf u = some xs → F' a = some u) : ∀ {ms : List M} {xs : List V} {A : List Addr}, M.aparts ms = true → RMs K w F H xs ms A → RMs K w F' H xs ms A
  | [], [], _, _, h => by simpa only [RMs] using h
  | [], _ :: _, _, _, h => by simp only [RMs] at h
  | _ :: _, [], _, _, h => by simp only [RMs] at h
  | m :: ms, x :: xs, _, e, h => by
    simp only [M.aparts, Bool.and_eq_true] at e
    simp only [RMs] at h ⊢
    obtain ⟨A1, A2, h1, h2, rfl⟩ := h
    exact ⟨A1, A2, apart_mono hT e.1 h1, aparts_mono hT e.2 h2, rfl⟩
end
/-- the frozen part behind a call that was only shown what others own -/
def shown (F1 H1 F' : Hp) : Hp := fun a => match H1 a with
  | some _ => frz F1 H1 [] a
  | none => F' a
theorem noW_hand : ∀ {as : List Arg} {m m' : Sl} {ks : List M}, hasW as = false → hand as m = some (ks, m') → m' = m
  | [], _, _, _, _, e => by
    simp only [hand, Option.some.injEq, Prod.mk.injEq] at e
    exact e.2.symm
  | .r r :: as, m, m', ks, h, e => by
    simp only [hand] at e
    split at e
    · simp only [Option.map_eq_some_iff] at e
      obtain ⟨⟨k0, m0⟩, e1, e2⟩ := e
      simp only [Prod.mk.injEq] at e2
      obtain ⟨rfl, rfl⟩ := e2
      exact noW_hand (by simpa only [hasW] using h) e1
    · cases e
  | .w i :: as, _, _, _, h, _ => by simp [hasW] at h
theorem noW_give : ∀ {as : List Arg} {m m' : Sl} {ks : List M}, hasW as = false → give as ks m = some m' → m' = m
  | [], m, m', [], _, e => by
    simp only [give, Option.some.injEq] at e
    exact e.symm
  | [], _, _, _ :: _, _, e => by simp [give] at e
  | .r r :: as, _, _, [], _, e => by simp [give] at e
  | .r r :: as, m, m', kk :: ks, h, e => by
    simp only [give] at e
    exact noW_give (by simpa only [hasW] using h) e
  | .w i :: as, _, _, _, h, _ => by simp [hasW] at h
theorem noW_ah {F H : Hp} {σ : L2.St} : ∀ {as : List Arg} {xs : List V} {m m' : Sl} {ks : List M}, hasW as = false → AH K w F H σ xs as → hand as m = some (ks, m') → RMs K w F H xs ks []
  | [], [], _, _, _, _, _, e => by
    simp only [hand, Option.some.injEq, Prod.mk.injEq] at e
    obtain ⟨rfl, rfl⟩ := e
    rfl
  | [], _ :: _, _, _, _, _, h, _ => by simp only [AH] at h
  | _ :: _, [], _, _, _, _, h, _ => by simp only [AH] at h
  | .r r :: as, x :: xs, m, m', ks, hw, h, e => by
    simp only [AH] at h
    simp only [hand] at e
    split at e
    · rename_i ok
      simp only [Option.map_eq_some_iff] at e
      obtain ⟨⟨k0, m0⟩, e1, e2⟩ := e
      simp only [Prod.mk.injEq] at e2
      obtain ⟨rfl, rfl⟩ := e2
      simp only [RMs]
      exact ⟨[], [], h.1 ok, noW_ah (by simpa only [hasW] using hw) h.2 e1, rfl⟩
    · cases e
  | .w i :: as, _, _, _, _, hw, _, _ => by simp [hasW] at hw
theorem callWith_cases {cf : CfT} {f : Str} {as : List Arg} {m : Sl} {P : Res (Rv × Sl) → Prop} (h : P (callWith cf f as m)) (hb : ¬ P .bad) :
    (looks as = true → hasW as = false) ∧ ∃ ks m1, hand as m = some (ks, m1) ∧ ((∃ c x, cf f ks = .er c x ∧ P (.er c x)) ∨ ∃ k ks' m2, cf f ks = .ok (.o k, ks') ∧ give as ks' m1 = some m2 ∧ (looks as = true → k.apart = true) ∧ P (.ok (.o k, m2))) := by
  unfold callWith at h
  split at h
  · exact absurd h hb
  · rename_i h0
    refine ⟨fun e => ?_, ?_⟩
    · rw [e] at h0
      simpa using h0
    · cases eh : hand as m with
      | none => rw [eh] at h; exact absurd h hb
      | some p =>
        obtain ⟨ks, m1⟩ := p
        rw [eh] at h
        simp only at h
        refine ⟨ks, m1, rfl, ?_⟩
        cases ec : cf f ks with
        | bad => rw [ec] at h; exact absurd h hb
        | er c x => rw [ec] at h; exact .inl ⟨c, x, rfl, h⟩
        | ok q =>
          obtain ⟨r, ks'⟩ := q
          rw [ec] at h
          simp only [Res.bind_ok] at h
          cases eg : give as ks' m1 with
          | none => rw [eg] at h; exact absurd h hb
          | some m2 =>
            rw [eg] at h
            simp only at h
            cases r with
            | b kk => exact absurd h hb
            | o kk =>
              simp only at h
              split at h
              · exact absurd h hb
              · rename_i h1
                refine .inr ⟨kk, ks', m2, rfl, eg, fun e => ?_, h⟩
                rw [e] at h1
                simpa using h1
theorem call_read {cf : CfT} {f : Str} {pu : Bool} {n : Nat} {fs : Sl → Res (List Arg × Sl)} {σ : L2.St} {H : Hp} {Q : VK} (hw : ∀ m as m', fs m = .ok (as, m') → pu = true → hasW as = false)
    (hn : ∀ m as m', fs m = .ok (as, m') → as.length = n) (h : tE K w mg W pu (fun m => (fs m).bind fun (as, m1) => callWith cf f as m1) σ H Q) : tAr K w mg W pu fs σ H fun vs H1 => spF K w mg n (cf f) vs H1 Q (WE W σ) := by
  obtain ⟨m, F, A, hR, hG, h⟩ := h
  refine ⟨m, F, A, hR, hG, ?_⟩
  cases e1 : fs m with
  | bad => simp only [e1] at h; exact h.elim
  | er c x => simp only [e1] at h; exact h
  | ok p =>
    obtain ⟨as, m1⟩ := p
    simp only [e1, Res.bind_ok] at h
    show ∀ xs H', ArP K w pu F H A σ as m1 xs H' → _
    rintro xs H1 ⟨F1, A1, T1, hR1, g1, s1, ar, p1⟩
    have hl : xs.length = n := by
      rw [← hn _ _ _ e1]
      exact ar.len
    obtain ⟨hlw, ks, mh, eh, hc⟩ := callWith_cases (P := fun r => match r with
      | .ok (r, m') => ∀ x H', EvP K w pu F H A σ r m' x H' → Q x H'
      | .er c x => ∀ cls d H', ErP mg A H c x cls d H' → W cls d σ H'
      | .bad => False) h (fun z => z)
    cases lk : looks as with
    | true =>
      have nw := hlw lk
      have ah := ah_all g1.sub ar
      have rk := noW_ah nw ah eh
      refine ⟨hl, H1, ks, [], rk, gs_nil (Same.refl H1), ?_⟩
      rcases hc with ⟨c, x, ec, hc⟩ | ⟨kk, ks', m2, ec, eg, hap, hc⟩
      · rw [ec]
        intro cls d H' q
        exact hc cls d H' ((q.less (A := A1 ++ T1) fun a ha => (by cases ha)).back s1)
      · rw [ec]
        have em : m2 = m1 := by rw [noW_give nw eg, noW_hand nw eh]
        subst em
        rintro v F' H' A' T rk' g' s' rr
        have g'' : GS F' H' T := g'.right
        have s'' : Stp [] H1 H1 T F' H' := s'.mem (fun _ h => h) fun a ha => .inl (List.mem_append_right _ ha)
        have kp : Same H1 H' := fun a o e => s''.keep a o e (by simp)
        have low : Same (shown F1 H1 F') F' := fun a o e => by
          unfold shown at e
          cases q : H1 a with
          | none => rw [q] at e; exact e
          | some u =>
            rw [q] at e
            exact s''.ff a o (frz_below g1.sub a o e)
        have tup : ∀ a u xs, F' a = some u → tpOf u = some xs → shown F1 H1 F' a = some u := fun a uu ys e et => by
          unfold shown
          cases q : H1 a with
          | none => exact e
          | some u =>
            have z := kp a u q
            rw [g''.sub a _ e] at z
            cases z
            unfold frz
            cases q2 : F1 a with
            | some u2 =>
              have := g1.sub a u2 q2
              rw [q] at this
              rw [this]
            | none => simp [q, et]
        have up : Same F1 (shown F1 H1 F') := fun a o e => by
          unfold shown
          rw [g1.sub a o e]
          exact frz_sub a o e
        have tn : ∀ a ∈ T, H1 a = none := fun a ha => by
          rcases s''.own a ha with z | z
          · cases z
          · exact z
        refine hc v H' ⟨shown F1 H1 F', A1, T, hR1.keep up fun a ha => ?_, ⟨low.trans g''.sub, List.nodup_append.mpr ⟨g1.left.nd, g''.nd, fun a ha b hb e => ?_⟩, fun a ha => ?_, fun a ha => ?_⟩, ?_, ?_, fun e => (p1 e).trans kp⟩
        · obtain ⟨o, ho, _⟩ := g1.left.own a ha
          rw [ho, kp a o ho]
        · obtain ⟨o, ho, _⟩ := g1.left.own a ha
          rw [e, tn b hb] at ho
          cases ho
        · rcases List.mem_append.mp ha with ha | ha
          · obtain ⟨o, ho, how⟩ := g1.left.own a ha
            unfold shown
            rw [ho]
            exact frz_off (g1.left.off a ha) (fun z => nomatch z) ho how
          · unfold shown
            rw [tn a ha]
            exact g''.off a ha
        · rcases List.mem_append.mp ha with ha | ha
          · obtain ⟨o, ho, how⟩ := g1.left.own a ha
            exact ⟨o, kp a o ho, how⟩
          · exact g''.own a ha
        · refine s1.trans ⟨up, fun a o e _ => kp a o e, fun a ha => ?_, fun a o e => ?_⟩
          · rcases List.mem_append.mp ha with ha | ha
            · exact .inl (List.mem_append_left _ ha)
            · exact .inr (tn a ha)
          · cases q : H1 a with
            | none => exact .inr (.inr (.inl rfl))
            | some u =>
              unfold shown at e
              rw [q] at e
              rcases frz_new e with z | z | z
              · exact .inl z
              · cases z
              · exact .inr (.inr (.inr z))
        · exact apart_mono tup (hap lk) rr
    | false =>
      have ah := ah_frz (T' := T1) g1.sub ar (fun a ha => ha) lk
      have gf : GS (frz F1 H1 T1) H1 A1 := by
        have := gs_frz (A1 := A1) (A2 := T1) (A3 := []) (by simpa using g1)
        simpa using this
      obtain ⟨Aw, Ar, rk, rr, pm, ew0⟩ := hand_ok ah (hR1.keep frz_sub fun _ _ => rfl) eh
      have gw : GS (frz F1 H1 T1) H1 (Aw ++ Ar) := gf.perm pm
      have sf : Stp (A1 ++ T1) F1 H1 (Aw ++ Ar) (frz F1 H1 T1) H1 := stp_frz (fun a ha => List.mem_append_left _ (pm.mem_iff.mp ha)) fun a ha => List.mem_append_right _ ha
      refine ⟨hl, frz F1 H1 T1, ks, Aw, rk, gw.left, ?_⟩
      rcases hc with ⟨c, x, ec, hc⟩ | ⟨kk, ks', m2, ec, eg, hap, hc⟩
      · rw [ec]
        intro cls d H' q
        exact hc cls d H' ((q.less (A := A1 ++ T1) fun a ha => List.mem_append_left _ (pm.mem_iff.mp (List.mem_append_left _ ha))).back s1)
      · rw [ec]
        rintro v F' H' A' T rk' g' s' rv
        obtain ⟨g2, s2, k2⟩ := carry gw s' g'
        obtain ⟨A2, l, r2, pm2⟩ := give_ok (ah_keep s'.ff ah) rk' (rr.keep s'.ff k2) eg
        have pp : (A2 ++ T ++ l).Perm (A' ++ T ++ Ar) := by
          have q1 : (A2 ++ T ++ l).Perm (A2 ++ l ++ T) := by
            rw [List.append_assoc, List.append_assoc]
            exact (List.perm_append_comm).append_left A2
          have q2 : (A2 ++ l ++ T).Perm (Ar ++ A' ++ T) := pm2.append_right T
          have q3 : (Ar ++ A' ++ T).Perm (A' ++ T ++ Ar) := by
            rw [List.append_assoc]
            exact List.perm_append_comm
          exact q1.trans (q2.trans q3)
        refine hc v H' ⟨F', A2, T, r2, (g2.perm pp).left, ((s1.trans sf).trans s2).mem (fun _ h => h) (fun a ha => .inl (pp.mem_iff.mp (List.mem_append_left _ ha))), rv, fun e => ?_⟩
        have ew : Aw = [] := ew0 (hw _ _ _ e1 e)
        subst ew
        exact (p1 e).trans fun a o z => s'.keep a o z (by simp)
end
section
variable {X : Cx} {k : Nat} {fs : List (Str × Nat)} {cf : CfT} {cs : Str → Option D} {W : WX}
theorem se_call (C : Ctx X k fs cf cs W) {sc : Scope} {f g : Str} {n : Nat} {x : Expr} {xs : List Expr} {p pos : Pos} {pu : Bool} {ev : Sl → Res (List Arg × Sl)} (hs : X.env.scope = sc) (hf : f = g) (hg : isGl sc f = true) (hn : fs.lookup f = some n) (hn2 : n < 100) (ok : okE x = true) (hpl : (backTo pos (starEach xs X.env)).any (·.1) = false)
    (hw : ∀ m as m', ev m = .ok (as, m') → pu = true → hasW as = false) (hl : ∀ m as m', ev m = .ok (as, m') → as.length = n) (ha : PA X (x :: xs) (tAr X.K X.w X.mg W pu ev)) : SE X W pu (.Call (.Name g p) (x :: xs) [] pos) (fun m => (ev m).bind fun (as, m1) => callWith cf f as m1) := by
  subst hf
  obtain ⟨g1, g2, g3⟩ := gl_of hs hg
  obtain ⟨fa, fd, ps, e1, e2, e3, e4, e5⟩ := C.fn f n hn hn2
  exact pe_imp (pe_callS e5 C.room g1 e2 e3 e4 (passAt C.tk) ha g2 (star_ok ok) hpl) fun σ H Q q => call_read hw hl q
theorem pe_callS0 {f : Addr} {fd : FuncData} {sp : Sp} {E : L2.St → XK} {x : Str} {p pos : Pos} (F : FnOk X.prog X.w X.K X.mg X.base (L2.CX X.prog X.w) k f fd [] sp) (hr : Room k X.A) (hg : Gl X x) (hm : X.mg x = some (.ref f)) (hk : PySem.W.keepIn X.K (.ref f) = true) (hb : Binds X.K fd [] []) (hx : ∀ σ, PassesAt (L2.CX X.prog X.w) X σ (E σ)) (hdb : (x == ("__debug__" : Str)) = false) :
    PE X (.Call (.Name x p) [] [] pos) (fun σ H Q => sp [] H Q (E σ)) := by
  refine ⟨fun pins s σ H Q I h => ?_⟩
  refine wpAny_Call_Name_kw (ld_glob I hg hm ?_ hdb)
  refine PySem.W.callWith_K0 I.kIn hk ?_
  show wpAny _ _ (call (.ref f) []) _ _ _
  exact run_fnS (E := E) F hr hb (hx σ) I .nil h
theorem se_call0 (C : Ctx X k fs cf cs W) {sc : Scope} {f g : Str} {p pos : Pos} {pu : Bool} (hs : X.env.scope = sc) (hf : f = g) (hg : isGl sc f = true) (hn : fs.lookup f = some 0) : SE X W pu (.Call (.Name g p) [] [] pos) (fun m => (Ars.nil.eva cf cs m).bind fun (as, m1) => callWith cf f as m1) := by
  subst hf
  obtain ⟨g1, g2, g3⟩ := gl_of hs hg
  obtain ⟨fa, fd, ps, e1, e2, e3, e4, e5⟩ := C.fn f 0 hn (by omega)
  have := List.length_eq_zero_iff.mp e1
  subst this
  refine pe_imp (pe_callS0 e5 C.room g1 e2 e3 e4 (passAt C.tk) g2) fun σ H Q q => ?_
  have q2 := call_read (n := 0) (fs := Ars.nil.eva cf cs) (fun m as m' e h => by cases e; rfl) (fun m as m' e => by cases e; rfl) q
  obtain ⟨m, F, A, hR, hG, q3⟩ := q2
  exact q3 [] H ⟨F, A, [], hR, by simpa using hG, by simpa using Stp.refl, rfl, fun _ => Same.refl H⟩
end
end Oa

/-! Part 20: the small language is what the text does: expressions. -/
namespace Oa
open PySem PySem.Spec PyProof.Rows L2
/-- a text whose test is its value's -/
def plainT : Expr → Bool
  | .UnaryOp .Not _ _ | .BoolOp _ _ _ | .IfExp _ _ _ _ | .Compare _ _ _ _ => false
  | _ => true
def isBo : Expr → Bool
  | .BoolOp _ _ _ => true
  | _ => false
theorem plain_test {x : Expr} {env : Env} (h : plainT x = true) : ∀ whole, isTrue x env whole = (do let v ← whole; standAt x.pos; holding [v] (truthy v)) := by
  intro whole
  cases x with
  | UnaryOp op a p => cases op <;> first | rfl | cases h
  | _ => first | rfl | cases h
theorem back_cons {pos : Pos} {t : Sem Value} {r : List (Bool × Sem Value)} : (backTo pos ((false, t) :: r)).any (·.1) = (backTo pos r).any (·.1) := by
  cases r <;> rfl
theorem ars_plain {N : List Str} {fs : List (Str × Nat)} {sc : Scope} {pos : Pos} {env : Env} : ∀ {es : Ars} {xs : List Expr}, Ars.chk N fs sc es xs = true → (backTo pos (starEach xs env)).any (·.1) = false
  | .nil, xs, h => by
    have h2 : (match (generalizing := false) xs with
      | [] => true
      | _ => false) = true := h
    clear h
    split at h2
    · rfl
    · cases h2
  | .r e es, xs, h => by
    have h2 : (match (generalizing := false) xs with
      | x :: xs => okE x && Ex.chk N fs sc e x && Ars.chk N fs sc es xs
      | _ => false) = true := h
    clear h
    split at h2
    · simp only [Bool.and_eq_true] at h2
      rw [star_ok h2.1.1, back_cons]
      exact ars_plain h2.2
    · cases h2
  | .w i es, xs, h => by
    have h2 : (match (generalizing := false) xs with
      | .Name x _ :: xs => isNm N sc i x && Ars.chk N fs sc es xs
      | _ => false) = true := h
    clear h
    split at h2
    · simp only [Bool.and_eq_true] at h2
      show (backTo pos ((false, _) :: _)).any (·.1) = false
      rw [back_cons]
      exact ars_plain h2.2
    · cases h2
section
variable {cf : CfT} {cs : Str → Option D}
theorem ars_len : ∀ {es : Ars} {m m' : Sl} {as : List Arg}, es.eva cf cs m = .ok (as, m') → as.length = es.len
  | .nil, m, m', as, h => by
    have h2 : (Res.ok ([], m) : Res (List Arg × Sl)) = .ok (as, m') := h
    cases h2
    rfl
  | .r e es, m, m', as, h => by
    have h2 : arR es.pu (e.ev cf cs) (es.eva cf cs) m = .ok (as, m') := h
    unfold arR at h2
    obtain ⟨⟨r, m1⟩, h3, h2⟩ := of_ok h2
    obtain ⟨⟨bs, m2⟩, h4, h2⟩ := of_ok h2
    simp only at h2
    split at h2
    · cases h2
    · cases h2
      have := ars_len h4
      show bs.length + 1 = es.len + 1
      rw [this]
  | .w i es, m, m', as, h => by
    have h2 : arW i (es.eva cf cs) m = .ok (as, m') := h
    unfold arW at h2
    split at h2
    · obtain ⟨⟨bs, m2⟩, h4, h2⟩ := of_ok h2
      cases h2
      have := ars_len h4
      show bs.length + 1 = es.len + 1
      rw [this]
    · cases h2
theorem ars_noW : ∀ {es : Ars} {m m' : Sl} {as : List Arg}, es.eva cf cs m = .ok (as, m') → es.pu = true → hasW as = false
  | .nil, m, m', as, h, _ => by
    have h2 : (Res.ok ([], m) : Res (List Arg × Sl)) = .ok (as, m') := h
    cases h2
    rfl
  | .r e es, m, m', as, h, hp => by
    have h2 : arR es.pu (e.ev cf cs) (es.eva cf cs) m = .ok (as, m') := h
    have hp2 : (e.pu && es.pu) = true := hp
    rw [Bool.and_eq_true] at hp2
    unfold arR at h2
    obtain ⟨⟨r, m1⟩, h3, h2⟩ := of_ok h2
    obtain ⟨⟨bs, m2⟩, h4, h2⟩ := of_ok h2
    simp only at h2
    split at h2
    · cases h2
    · cases h2
      show hasW bs = false
      exact ars_noW h4 hp2.2
  | .w i es, m, m', as, h, hp => by
    have hp2 : false = true := hp
    cases hp2
end
section
variable {k : Nat} {fs : List (Str × Nat)} {cf : CfT} {cs : Str → Option D}
theorem ctx_blk {X : Cx} {W : WX} (C : Ctx X k fs cf cs W) (s : Shared) (H : Hp) (scope : Scope) (c : Addr) (cl : List (Str × Addr)) (fp : List Addr) : Ctx (blkX X s H scope c cl fp) k fs cf cs W0 :=
  ⟨C.calm, C.room, C.nd, C.bi, C.fn, C.cst, C.er, C.em, fun _ _ x => by
    obtain ⟨_, _, _, _, _, _, _, _, _, _, _, _, _, _, _, _, z⟩ := x
    exact z.elim⟩
structure SO (X : Cx) (W : WX) (cf : CfT) (cs : Str → Option D) (e : Ex) (x : Expr) : Prop where
  se : SE X W e.pu x (e.ev cf cs)
  st : e.tst = true → ST X W e.pu x (e.ev cf cs)
  sw : e.tst = true → isBo x = true → SW X W e.pu x (e.ev cf cs)
theorem SO.of {X : Cx} {W : WX} {e : Ex} {x : Expr} (h : SE X W e.pu x (e.ev cf cs)) (hp : plainT x = true) : SO X W cf cs e x :=
  ⟨h, fun _ => pt_val h (plain_test hp), fun _ z => by cases x <;> first | exact absurd hp Bool.false_ne_true | exact absurd z Bool.false_ne_true⟩
theorem se_glb {X : Cx} {W : WX} (C : Ctx X k fs cf cs W) {sc : Scope} {y : Str} {p : Pos} (hs : X.env.scope = sc) (hg : isGl sc y = true) : SE X W true (.Name y p) ((Ex.glb y).ev cf cs) := by
  obtain ⟨g1, g2, g3⟩ := gl_of hs hg
  cases e : cs y with
  | none =>
    refine ⟨fun pins s σ H Q I q => ?_⟩
    obtain ⟨m, F, A, hR, hG, q⟩ := q
    have q2 : (match (match cs y with
      | some d => (Res.ok (.p d, m) : Res (Rv × Sl))
      | none => .bad) with
      | .ok (r, m') => ∀ x H', EvP X.K X.w true F H A σ r m' x H' → Q x H'
      | .er c x => ∀ cls d H', ErP X.mg A H c x cls d H' → W cls d σ H'
      | .bad => False) := q
    rw [e] at q2
    exact q2.elim
  | some d =>
    obtain ⟨u, v, h1, h2, h3⟩ := C.cst y d e
    have h := se_flat (W := W) (pu := true) (pe_glob (pos := p) g1 h1 h2 g2) h3
    refine pe_imp h fun σ H Q q => ?_
    obtain ⟨m, F, A, hR, hG, q⟩ := q
    refine ⟨m, F, A, hR, hG, ?_⟩
    have q2 : (match (match cs y with
      | some d => (Res.ok (.p d, m) : Res (Rv × Sl))
      | none => .bad) with
      | .ok (r, m') => ∀ x H', EvP X.K X.w true F H A σ r m' x H' → Q x H'
      | .er c x => ∀ cls d H', ErP X.mg A H c x cls d H' → W cls d σ H'
      | .bad => False) := q
    rw [e] at q2
    exact q2
end
end Oa

/-! Part D5: d.get(k), d.get(k, x). -/
namespace Oa
open PySem PySem.Spec PyProof.Rows L2
section
variable {X : Cx} {k : Nat} {fs : List (Str × Nat)} {cf : CfT} {cs : Str → Option D} {W : WX}
def dTy (x : V) (H : Hp) : Prop := ∃ a c, x = .ref a ∧ H a = some (dctO a c)
theorem isD_ty {F H : Hp} {x : V} {r : Rv} {T : List Addr} (s : Same F H) (h : RR X.K X.w F H x r T) (e : P.isD r = true) : dTy x H := by
  obtain ⟨kvs, ek⟩ := Option.isSome_iff_exists.mp e
  obtain ⟨_, a, c, rfl, k1, _⟩ := h.dct s ek
  exact ⟨a, c, rfl, k1⟩
/-- the dict at a asked for a key: as the machine's two ways want it -/
theorem dct_ask {pins : List (Addr × Obj)} {σ : L2.St} {F H : Hp} {s : Shared} {a : Addr} {c : Dc} {kvs : List (D × D)} {kd : D} {y : V} {u : Value} (I : Inv X pins σ H s) (sF : Same F H) (k1 : H a = some (dctO a c)) (k2 : (kvs.map fun p => keyOf p.1).Nodup) (k3 : RepKs X.K X.w F c.en kvs) (ok : kOk kvs kd = true) (ry : RelV y u) (hy : RepD X.K X.w F y kd) :
    (a == sysModules) = false ∧ ((∃ vs kk, s.heap.DictOf (mixKind X.prog X.w) a vs ∧ (mixKind X.prog X.w).is kk u = true ∧ ((valueAt vs kk = none ∧ look? kvs kd = none) ∨ ∃ v d x, valueAt vs kk = some v ∧ look? kvs kd = some d ∧ RelV x v ∧ RepD X.K X.w F x d)) ∨
      ∃ xs kk b, u = .ref b ∧ s.heap.DictOfH (nestedKind X.prog X.w) a xs ∧ (nestedKind X.prog X.w).is s.heap kk b ∧ ((atKey xs kk = none ∧ look? kvs kd = none) ∨ ∃ p d x, atKey xs kk = some p ∧ look? kvs kd = some d ∧ RelV x p.2 ∧ RepD X.K X.w F x d)) := by
  obtain ⟨o, es, g1, g2, g3, g4, g5, g6⟩ := dct_at I k1
  refine ⟨g6, ?_⟩
  rcases kOk_cases ok with ⟨ok, kk, hk⟩ | ⟨ok, kk, hk⟩
  · obtain ⟨vs, q1, q2, q3⟩ := at_of (P := X.prog) g4 k3 ok
    have hv := atom_val hk hy
    subst hv
    exact .inl ⟨vs, kk, ⟨o, es, _, g1, g2, g3, fun x hx => q1 x (by simpa using hx), q2, q3.nodup k2⟩, kV_is ry, q3.look hk⟩
  · obtain ⟨xs, t1, t2, t3, _⟩ := dct_tabH I sF k1 k2 k3 ok
    obtain ⟨b', rfl⟩ := tup_val hk hy
    have hn := nested_is I kd (hy.mono sF) ry (tup_key hk).1
    cases ry
    exact .inr ⟨xs, kk, b', rfl, t1, ⟨hn, (tup_key hk).2.1⟩, t2.look hk⟩
theorem room8 {kr : Nat} (hr : Room kr X.A) : (nestedKind X.prog X.w).room X.A.in1 := by
  show X.A.units + 1 + 8 < cLine
  have := hr.units
  omega
abbrev rGet (X : Cx) : V → List V → Hp → VK → Prop := fun x xs H Q => ∃ y, xs = [y] ∧ rP X.K X.w P.get [x, y] H Q
theorem mt_Get {kr : Nat} (hr : Room kr X.A) : MtR X "dict.get" (rGet X) := by
  intro pins s σ H x xs v us Q I rx rxs h
  obtain ⟨y, rfl, F, T, rs, out, gs, hrr, he, q⟩ := h
  obtain ⟨a, b, T1, T2, rfl, rfl, h1, h2⟩ := hrr.two
  obtain ⟨u, rfl, ry⟩ := rxs.one
  unfold P.get at he
  simp only at he
  split at he
  · rename_i kvs ek
    split at he
    · rename_i kd em
      split at he
      · rename_i hc
        cases he
        obtain ⟨_, l, c, rfl, k1, k2, k3⟩ := h1.dct gs.sub ek
        cases rx
        obtain ⟨lo, ⟨vs, kk, t1, t2, t3⟩ | ⟨xs, kk, b', rfl, t1, t2, t3⟩⟩ := dct_ask I gs.sub k1 k2 k3 hc ry (h2.pure em)
        · refine call_meetsIn PySem.F.slot_dict_get t1.typeIs PySem.F.entry_dict_get (PySem.F.args_dict_get_2 _ _) (meets_dict_get (mixKind X.prog X.w) l t2 lo) ⟨_, t1.mapOf, ?_⟩
          rcases t3 with ⟨e1, e2⟩ | ⟨v, d, x, e1, e2, e3, e4⟩
          · rw [e2] at q
            rw [e1]
            exact ⟨.non, H, I.tok _, rfl, end_flat gs q (by simp only [Option.getD_none, RepD])⟩
          · rw [e2] at q
            rw [e1]
            exact ⟨x, H, I.tok _, e3, end_flat gs q e4⟩
        · refine call_meetsIn PySem.F.slot_dict_get t1.typeIs PySem.F.entry_dict_get (PySem.F.args_dict_get_2 _ _) (meetsH_dict_get (nestedKind X.prog X.w) l b' lo) ⟨room8 hr, kk, xs, t2, t1, ?_⟩
          rcases t3 with ⟨e1, e2⟩ | ⟨v, d, x, e1, e2, e3, e4⟩
          · rw [e2] at q
            rw [e1]
            exact ⟨.non, H, I.tok _, rfl, end_flat gs q (by simp only [Option.getD_none, RepD])⟩
          · rw [e2] at q
            rw [e1]
            exact ⟨x, H, I.tok _, e3, end_flat gs q e4⟩
      · cases he
    · cases he
  · cases he
abbrev rGet3 (X : Cx) : V → List V → Hp → VK → Prop := fun x xs H Q => ∃ y z, xs = [y, z] ∧ rP X.K X.w P.get3 [x, y, z] H Q
theorem mt_Get3 {kr : Nat} (hr : Room kr X.A) : MtR X "dict.get" (rGet3 X) := by
  intro pins s σ H x xs v us Q I rx rxs h
  obtain ⟨y, z, rfl, F, T, rs, out, gs, hrr, he, q⟩ := h
  match rs, hrr with
  | [], hrr => simp only [RRs] at hrr
  | a :: rs, hrr =>
    simp only [RRs] at hrr
    obtain ⟨T1, T2, h1, hr2, rfl⟩ := hrr
    obtain ⟨b, d, T3, T4, rfl, rfl, h2, h3⟩ := RRs.two hr2
    cases rxs with
    | cons ry rt => cases rt with
      | cons rz rt =>
        cases rt
        rename_i u uz
        unfold P.get3 at he
        simp only at he
        split at he
        · rename_i kvs ek
          split at he
          · rename_i kd yd em ez
            split at he
            · rename_i hc
              cases he
              obtain ⟨_, l, c, rfl, k1, k2, k3⟩ := h1.dct gs.sub ek
              cases rx
              obtain ⟨lo, ⟨vs, kk, t1, t2, t3⟩ | ⟨xs, kk, b', rfl, t1, t2, t3⟩⟩ := dct_ask I gs.sub k1 k2 k3 hc ry (h2.pure em)
              · refine call_meetsIn PySem.F.slot_dict_get t1.typeIs PySem.F.entry_dict_get (PySem.F.args_dict_get_3 _ _ _) (meets_dict_get_default (mixKind X.prog X.w) l t2 lo uz) ⟨_, t1.mapOf, ?_⟩
                rcases t3 with ⟨e1, e2⟩ | ⟨v, d, x, e1, e2, e3, e4⟩
                · rw [e2] at q
                  rw [e1]
                  exact ⟨z, H, I.tok _, rz, end_flat gs q (h3.pure ez)⟩
                · rw [e2] at q
                  rw [e1]
                  exact ⟨x, H, I.tok _, e3, end_flat gs q e4⟩
              · refine call_meetsIn PySem.F.slot_dict_get t1.typeIs PySem.F.entry_dict_get (PySem.F.args_dict_get_3 _ _ _) (meetsH_dict_get_default (nestedKind X.prog X.w) l b' lo uz) ⟨room8 hr, kk, xs, t2, t1, ?_⟩
                rcases t3 with ⟨e1, e2⟩ | ⟨v, d, x, e1, e2, e3, e4⟩
                · rw [e2] at q
                  rw [e1]
                  exact ⟨z, H, I.tok _, rz, end_flat gs q (h3.pure ez)⟩
                · rw [e2] at q
                  rw [e1]
                  exact ⟨x, H, I.tok _, e3, end_flat gs q e4⟩
            · cases he
          · cases he
        · cases he
/-- the call of a method with two operands, the kind told by an own word -/
theorem pe_meth2 {Ty : V → Hp → Prop} {o e f : Expr} {to te tf : TE} {name : Str} {apos cpos : Pos} {T id : String} {r : V → List V → Hp → VK → Prop} (pa : PlainAttrs T) (slot : Slot T name id) (hty : typeOf (.builtin id) = pure (.type "method_descriptor")) (hm : MtR X id r)
    (hk : ∀ (pins : List (Addr × Obj)) (σ : L2.St) (H : Hp) (s : Shared) (x : V) (v : Value), Inv X pins σ H s → RelV x v → Ty x H → s.TypeIs v T ∧ ∀ a, v = .ref a → ∃ ob, s.heap.get? a = some ob ∧ ob.dict = none)
    (ho : PE X o to) (ha : PE X e te) (hb : PE X f tf) (nb : noBase o = true) (ok : okE e = true) (ok2 : okE f = true) (hline : (apos.endLine == cpos.line) = true) :
    PE X (.Call (.Attribute o name apos) [e, f] [] cpos) (fun σ H Q => to σ H fun x H1 => Ty x H1 ∧ te σ H1 fun y H2 => tf σ H2 fun z H3 => r x [y, z] H3 Q) := by
  refine ⟨fun pins s σ H Q I h => ?_⟩
  have hs : starEach [e, f] X.env = (false, eval e X.env) :: starEach [f] X.env := star_ok ok
  have hs2 : starEach [f] X.env = (false, eval f X.env) :: starEach [] X.env := star_ok ok2
  refine wpAny_Call_method_late (base_ok nb) (by rw [hs, hs2]; rfl) hline rfl (thn (ho.run pins s σ H _ I h) fun v s1 ⟨x, H1, I1, r1, ty, q1⟩ => ?_)
  obtain ⟨h1, h2⟩ := hk pins σ H1 s1 x v I1 r1 ty
  refine ⟨T, id, pa, slot, hty, h1, h2, ?_⟩
  have hA := (pa_cons ha (pa_cons hb pa_nil hs2) hs).run cpos pins s1 σ H1 (fun xs H2 => r x xs H2 Q) I1 q1
  rw [hs, hs2] at hA ⊢
  refine Calls.callWith_builtin (by rfl) (Calls.evalArgs_plain ?_)
  exact thn hA fun us s2 ⟨vs, H2, I2, r2, q2⟩ => hm pins s2 σ H2 x vs v us Q I2 r1 r2 q2
theorem calm_get : Calm P.get := by intro rs c x e; unfold P.get at e; (repeat' split at e) <;> cases e
theorem calm_get3 : Calm P.get3 := by intro rs c x e; unfold P.get3 at e; (repeat' split at e) <;> cases e
theorem dTy_is {pins : List (Addr × Obj)} {σ : L2.St} {H : Hp} {s : Shared} {x : V} {v : Value} (I : Inv X pins σ H s) (r : RelV x v) (h : dTy x H) : s.TypeIs v "dict" ∧ ∀ a, v = .ref a → ∃ ob, s.heap.get? a = some ob ∧ ob.dict = none := by
  obtain ⟨a, c, rfl, ha⟩ := h
  cases r
  exact dct_ty I ha
theorem se_get (C : Ctx X k fs cf cs W) {f : Str} {a b : Expr} {pa pb : Bool} {fa fb : EvF} {ap cp : Pos} (hf : f = "get") (hl : (ap.endLine == cp.line) = true) (nb : noBase a = true) (ok : okE b = true) (ha : SE X W pa a fa) (hb : SE X W pb b fb) :
    SE X W (pa && pb) (.Call (.Attribute a f ap) [b] [] cp) (ev2 P.get pb (kdF P.isD fa) fb) := by
  subst hf
  refine pe_imp (pe_meth (Ty := dTy) PySem.F.plainAttrs_dict PySem.F.slot_dict_get PySem.F.type_dict_get (mt_Get C.room) (fun pins σ H s x v I r h => dTy_is I r h) ha hb nb ok hl) fun σ H Q q => ?_
  refine tE_mono (tE_kd (tE_2 calm_get q)) fun x H1 ⟨⟨F, T, rr, s1, h1, e1⟩, q⟩ => ⟨isD_ty s1 h1 e1, tE_mono q fun y H2 q => ⟨y, rfl, q⟩⟩
theorem se_get3 (C : Ctx X k fs cf cs W) {f : Str} {a b c : Expr} {pa pb pc : Bool} {fa fb fc : EvF} {ap cp : Pos} (hf : f = "get") (hl : (ap.endLine == cp.line) = true) (nb : noBase a = true) (ok : okE b = true) (ok2 : okE c = true) (ha : SE X W pa a fa) (hb : SE X W pb b fb) (hc : SE X W pc c fc) :
    SE X W (pa && (pb && pc)) (.Call (.Attribute a f ap) [b, c] [] cp) (ev3 P.get3 pb pc (kdF P.isD fa) fb fc) := by
  subst hf
  refine pe_imp (pe_meth2 (Ty := dTy) PySem.F.plainAttrs_dict PySem.F.slot_dict_get PySem.F.type_dict_get (mt_Get3 C.room) (fun pins σ H s x v I r h => dTy_is I r h) ha hb hc nb ok ok2 hl) fun σ H Q q => ?_
  refine tE_mono (tE_kd (tE_3 calm_get3 q)) fun x H1 ⟨⟨F, T, rr, s1, h1, e1⟩, q⟩ => ⟨isD_ty s1 h1 e1, tE_mono q fun y H2 q => tE_mono q fun z H3 q => ⟨y, z, rfl, q⟩⟩
end
end Oa

/-! Part D8: a dict of one entry written out. -/
namespace Oa
open PySem PySem.Spec PyProof.Rows L2
def rD1 (K : PySem.W.Frag) (w : World) : V → V → V → Hp → (Hp → Prop) → Prop := fun o i v H Q => ∃ (F : Hp) (a : Addr) (ents : Dc) (kd d : D), Same F H ∧ o = .ref a ∧ H a = some (dctO a ents) ∧ RepKs K w F ents.en [] ∧ kOk [] kd = true ∧ RepD K w F i kd ∧ RepD K w F v d ∧
  ∀ ents', RepKs K w F ents'.en [(kd, d)] → Q (upd H a (dctO a ents'))
theorem store_dct {X : Cx} {kr : Nat} (hr : Room kr X.A) {pins : List (Addr × Obj)} {s : Shared} {σ : L2.St} {H : Hp} {o i v : V} {d0 : Addr} {iv u : Value} {Q : Hp → Prop} (I : Inv X pins σ H s) (ro : o = .ref d0) (ri : RelV i iv) (rv : RelV v u) (h : rD1 X.K X.w o i v H Q) :
    wpAny (model X.prog X.w) X.A (storeAll d0 [(iv, u)]) (fun _ s' => ∃ H', Inv X pins σ H' s' ∧ Q H') X.xe s := by
  obtain ⟨F, a, ents, kd, d, sF, rfl, ha, rk, ok, hi, hv, q⟩ := h
  cases ro
  have nd : (([] : List (D × D)).map fun p => keyOf p.1).Nodup := List.nodup_nil
  unfold storeAll
  rw [List.forIn_cons]
  rcases kOk_cases ok with ⟨ok, kk, hk⟩ | ⟨ok, kk, hk⟩
  · obtain ⟨o, es, g1, g2, g3, g4, g5, g6⟩ := dct_at I ha
    obtain ⟨vs, q1, q2, q3⟩ := at_of (P := X.prog) g4 rk ok
    have dd : s.heap.DictOf (mixKind X.prog X.w) d0 vs := ⟨o, es, _, g1, g2, g3, fun x hx => q1 x (by simpa using hx), q2, q3.nodup nd⟩
    have hz : vs.length ≤ sizeLine := by rw [q3.len]; exact Nat.zero_le _
    have hkv := atom_val hk hi
    subst hkv
    refine wpAny_bind (wpAny_bind (wpAny_dictSet_pairs (hsz := hz) (kV_is ri) dd fun h' dd' hs => wpAny_pure ?_))
    have r' : AtR X.K X.w F (stored vs kk u) (putK' [] kd d) := q3.put hk rv hv
    obtain ⟨ents', e1, e2, e3⟩ := tab_dct dd' r' g6 (by rw [r'.len]; show 1 ≤ sizeLine; rw [sizeLine_eq]; omega)
    show wpAny _ _ (forIn [] _ _) _ _ _
    rw [List.forIn_nil]
    exact wpAny_pure ⟨upd H d0 (dctO d0 ents'), I.write (x := d0) (e := d0) (by rw [ha]; exact True.intro) (.inl rfl) (fun b p hb z => (hs.2 b hb).trans z) (let ⟨o, _, g, _⟩ := e1; ⟨o, g⟩) (dct_ok e1), q ents' e3⟩
  · obtain ⟨xs, t1, t2, t3, t4⟩ := dct_tabH I sF ha nd rk ok
    obtain ⟨b, rfl⟩ := tup_val hk hi
    have hn := nested_is I kd (hi.mono sF) ri (tup_key hk).1
    cases ri
    refine wpAny_bind (wpAny_bind (wpAny_dictSet_heap (knd := nestedKind X.prog X.w) (k := kk) (hsz := t4) (by show X.A.units + 8 < cLine; have := hr.units; omega) ⟨hn, (tup_key hk).2.1⟩ t1 fun h' dd' hs => wpAny_pure ?_))
    have r' : AtH X.K X.w F (storedH xs kk b u) (putK' [] kd d) := t2.put hk hi rv hv
    obtain ⟨ents', e1, e2, e3⟩ := tabH_dct dd' r' t3 (by rw [r'.len]; show 1 ≤ sizeLine; rw [sizeLine_eq]; omega)
    show wpAny _ _ (forIn [] _ _) _ _ _
    rw [List.forIn_nil]
    exact wpAny_pure ⟨upd H d0 (dctO d0 ents'), I.write (x := d0) (e := d0) (by rw [ha]; exact True.intro) (.inl rfl) (fun b p hb z => (hs.2 b hb).trans z) (let ⟨o, _, g, _⟩ := e1; ⟨o, g⟩) (dct_ok e1), q ents' e3⟩
theorem pe_dct1 {X : Cx} {kr : Nat} (hr : Room kr X.A) {k v : Expr} {ta tb : TE} {pos : Pos} (ha : PE X k ta) (hb : PE X v tb) :
    PE X (.Dict [some k] [v] pos) (fun σ H Q => ∀ p, H p = none → ta σ (upd H p (dctO p ⟨0, []⟩)) fun x H1 => tb σ H1 fun y H2 => rD1 X.K X.w (.ref p) x y H2 fun H3 => Q (.ref p) H3) := by
  refine ⟨fun pins s σ H Q I h => ?_⟩
  refine wpAny_Dict_any rfl rfl (by simp) (by show 1 ≤ 15; omega) ?_
  have hn : H s.heap.objs.size = none := I.hok.fresh (Nat.le_refl _)
  have I1 := I.laid (a := s.heap.objs.size) (o := dctO s.heap.objs.size ⟨0, []⟩) (t' := s.toks) (fun _ _ q => Heap.get?_push_of_some _ q) (Nat.le_refl _) (dct_ok (dct_new I.big))
  show wpAny _ _ (evalPairs [(eval k X.env, do let x ← eval v X.env; standAt pos; pure x)]) _ _ _
  refine evalPairs_cons (thn (ha.run pins _ σ _ _ I1 (h _ hn)) fun kv s1 ⟨x, H1, I2, r1, q1⟩ => ?_)
  refine wpAny_bind (thn (hb.run pins s1 σ H1 _ I2 q1) fun vv s2 ⟨y, H2, I3, r2, q2⟩ => wpAny_bind (wpAny_standAt (wpAny_pure ?_)))
  refine evalPairs_nil ?_
  exact thn (store_dct hr I3 rfl r1 r2 q2) fun _ s3 ⟨H3, I4, q3⟩ => ⟨.ref s.heap.objs.size, H3, I4, rfl, q3⟩
theorem kOk_of {kd : D} (h : tupKey0 kd = true) : kOk [] kd = true := by
  unfold kOk
  cases kd with
  | int i => rfl
  | str x => rfl
  | tuple xs =>
    unfold tupKey0 at h
    simp only at h
    show (true && (atomKey (.tuple xs)).isSome || true && (tupKey (.tuple xs)).isSome) = true
    unfold tupKey
    simp only
    cases e : keyOf (.tuple xs) with
    | none => rw [e] at h; cases h
    | some k =>
      rw [e] at h
      simp only at h ⊢
      rw [if_pos (of_decide_eq_true h)]
      rfl
  | _ => cases h
section
variable {K : PySem.W.Frag} {w : World} {mg : Str → Option Value} {W : WX}
theorem upd_sub {H : Hp} {p : Addr} {o : HO} (hn : H p = none) : Same H (upd H p o) := same_new hn
theorem dct1_read {pa pb : Bool} {fa fb : EvF} {σ : L2.St} {H : Hp} {Q : VK} (h : tE K w mg W (pa && pb) (dct1F fa fb) σ H Q) :
    ∀ p, H p = none → tE K w mg W pa fa σ (upd H p (dctO p ⟨0, []⟩)) fun x H1 => tE K w mg W pb fb σ H1 fun y H2 => rD1 K w (.ref p) x y H2 fun H3 => Q (.ref p) H3 := by
  intro p hp
  obtain ⟨m, F, A, hR, hG, h⟩ := h
  have sH : Same H (upd H p (dctO p ⟨0, []⟩)) := upd_sub hp
  have pA : p ∉ A := fun z => by
    obtain ⟨o, ho, _⟩ := hG.own p z
    rw [hp] at ho
    cases ho
  have hR0 : RS K w F (upd H p (dctO p ⟨0, []⟩)) σ m A := hR.keep (Same.refl F) fun a ha => upd_ne fun z => pA (z ▸ ha)
  have hG0 : GS F (upd H p (dctO p ⟨0, []⟩)) A := ⟨hG.sub.trans sH, hG.nd, hG.off, fun a ha => by
    obtain ⟨o, ho, ow⟩ := hG.own a ha
    exact ⟨o, sH a o ho, ow⟩⟩
  refine ⟨m, F, A, hR0, hG0, ?_⟩
  unfold dct1F at h
  cases e1 : fa m with
  | bad =>
    simp only [e1] at h
    exact h.elim
  | er c x =>
    simp only [e1] at h
    exact fun cls d H' q => h cls d H' ⟨q.1, fun a o z ha => q.2.1 a o (sH a o z) ha, q.2.2⟩
  | ok r1 =>
    obtain ⟨q1, m1⟩ := r1
    simp only [e1, Res.bind_ok] at h
    show ∀ x H', EvP K w pa F _ A σ q1 m1 x H' → _
    rintro x H1 ⟨F1, A1, T1, hR1, g1, s1, r1, p1⟩
    refine ⟨m1, F1, A1, hR1, g1.left, ?_⟩
    cases e2 : fb m1 with
    | bad =>
      simp only [e2] at h
      exact h.elim
    | er c y =>
      simp only [e2] at h
      intro cls d H' q
      have q2 := (q.less (A := A1 ++ T1) fun a ha => List.mem_append_left _ ha).back s1
      exact h cls d H' ⟨q2.1, fun a o z ha => q2.2.1 a o (sH a o z) ha, q2.2.2⟩
    | ok r2 =>
      obtain ⟨q2, m2⟩ := r2
      simp only [e2, Res.bind_ok] at h
      show ∀ y H', EvP K w pb F1 H1 A1 σ q2 m2 y H' → _
      rintro y H2 ⟨F2, A2, T2, hR2, g2, s2, r2, p2⟩
      have hh : ∃ kd d, q1 = .o (.d kd) ∧ q2 = .o (.d d) := by
        cases q1 with
        | b k1 => exact h.elim
        | o k1 =>
          cases k1 with
          | d kd =>
            cases q2 with
            | b k2 => exact h.elim
            | o k2 =>
              cases k2 with
              | d d => exact ⟨kd, d, rfl, rfl⟩
              | _ => exact h.elim
          | _ => exact h.elim
      obtain ⟨kd, d, rfl, rfl⟩ := hh
      simp only at h
      by_cases hok0 : tupKey0 kd = true
      · rw [if_pos hok0] at h
        · have hok := kOk_of hok0
          have x1 : RepD K w F1 x kd := by
            have : RM K w F1 H1 x (.d kd) T1 := r1
            simp only [RM] at this
            exact this.1
          have y1 : RepD K w F2 y d := by
            have : RM K w F2 H2 y (.d d) T2 := r2
            simp only [RM] at this
            exact this.1
          have h1p : H1 p = some (dctO p ⟨0, []⟩) := s1.keep p _ upd_same pA
          have pA1 : p ∉ A1 ++ T1 := fun z => by
            rcases s1.own p z with z | z
            · exact pA z
            · rw [upd_same] at z; cases z
          have pA1' : p ∉ A1 := fun z => pA1 (List.mem_append_left _ z)
          have h2p : H2 p = some (dctO p ⟨0, []⟩) := s2.keep p _ h1p pA1'
          have pA2 : p ∉ A2 ++ T2 := fun z => by
            rcases s2.own p z with z | z
            · exact pA1' z
            · rw [h1p] at z; cases z
          have Fp : F p = none := hG.sub.free hp
          have F1p : F1 p = none := by
            cases e : F1 p with
            | none => rfl
            | some o =>
              have eo : o = dctO p ⟨0, []⟩ := by
                have := g1.sub p o e
                rw [h1p] at this
                exact (Option.some.inj this).symm
              rcases s1.new p o e with z | z | z | ⟨xs, z⟩
              · rw [Fp] at z; cases z
              · exact absurd z pA
              · rw [upd_same] at z; cases z
              · rw [eo] at z; cases z
          have F2p : F2 p = none := by
            cases e : F2 p with
            | none => rfl
            | some o =>
              have eo : o = dctO p ⟨0, []⟩ := by
                have := g2.sub p o e
                rw [h2p] at this
                exact (Option.some.inj this).symm
              rcases s2.new p o e with z | z | z | ⟨xs, z⟩
              · rw [F1p] at z; cases z
              · exact absurd z pA1'
              · rw [h1p] at z; cases z
              · rw [eo] at z; cases z
          refine ⟨F2, p, ⟨0, []⟩, kd, d, g2.sub, rfl, h2p, True.intro, hok, x1.mono s2.ff, y1, fun ents' hk => ?_⟩
          have s12 : Stp A F (upd H p (dctO p ⟨0, []⟩)) A2 F2 H2 := (s1.mem (fun _ h => h) fun a ha => .inl (List.mem_append_left _ ha)).trans (s2.mem (fun _ h => h) fun a ha => .inl (List.mem_append_left _ ha))
          have ne : ∀ a ∈ A2, a ≠ p := fun a ha z => pA2 (List.mem_append_left _ (z ▸ ha))
          refine h (.ref p) _ ⟨F2, A2, [p], hR2.keep (Same.refl _) fun a ha => upd_ne (ne a ha), ⟨fun a o z => ?_, ?_, fun a ha => ?_, fun a ha => ?_⟩, ⟨s12.ff, fun a o z ha => ?_, fun a ha => ?_, fun a o z => ?_⟩, ?_, fun z a o ho => ?_⟩
          · by_cases e : a = p
            · rw [e, F2p] at z; cases z
            · rw [upd_ne e]; exact g2.sub a o z
          · refine List.nodup_append.mpr ⟨g2.left.nd, by simp, fun a ha b hb => ?_⟩
            rw [List.mem_singleton] at hb
            subst hb
            exact ne a ha
          · rcases List.mem_append.mp ha with ha | ha
            · exact g2.left.off a ha
            · rw [List.mem_singleton] at ha
              rw [ha]
              exact F2p
          · rcases List.mem_append.mp ha with ha | ha
            · obtain ⟨o, ho, ow⟩ := g2.left.own a ha
              exact ⟨o, (upd_ne (ne a ha)).trans ho, ow⟩
            · rw [List.mem_singleton] at ha
              subst ha
              exact ⟨_, upd_same, fun xs z => by unfold dctO at z; cases z⟩
          · have : a ≠ p := fun e => by rw [e, hp] at z; cases z
            rw [upd_ne this]
            exact s12.keep a o (sH a o z) ha
          · rcases List.mem_append.mp ha with ha | ha
            · rcases s12.own a ha with z | z
              · exact .inl z
              · rw [upd_ne (ne a ha)] at z
                exact .inr z
            · rw [List.mem_singleton] at ha
              exact .inr (ha ▸ hp)
          · rcases s12.new a o z with z | z | z | z
            · exact .inl z
            · exact .inr (.inl z)
            · have : a ≠ p := fun e => by rw [e, upd_same] at z; cases z
              rw [upd_ne this] at z
              exact .inr (.inr (.inl z))
            · exact .inr (.inr (.inr z))
          · show RM K w _ _ _ (.m [(kd, d)]) [p]
            simp only [RM]
            exact ⟨p, ents', rfl, upd_same, by simp, hk, rfl⟩
          · rw [Bool.and_eq_true] at z
            have : a ≠ p := fun e => by rw [e, hp] at ho; cases ho
            rw [upd_ne this]
            exact p2 z.2 a o (p1 z.1 a o (sH a o ho))
      · rw [if_neg hok0] at h
        exact h.elim
end
theorem se_dct1 {X : Cx} {k : Nat} {fs : List (Str × Nat)} {cf : CfT} {cs : Str → Option D} {W : WX} {a b : Expr} {pa pb : Bool} {fa fb : EvF} {pos : Pos} (C : Ctx X k fs cf cs W) (ha : SE X W pa a fa) (hb : SE X W pb b fb) : SE X W (pa && pb) (.Dict [some a] [b] pos) (dct1F fa fb) :=
  pe_imp (pe_dct1 C.room ha hb) fun σ H Q q => dct1_read q
/-! min(a, b), max(a, b) -/
section
variable {X : Cx} {k : Nat} {fs : List (Str × Nat)} {cf : CfT} {cs : Str → Option D} {W : WX}
theorem se_b2 (C : Ctx X k fs cf cs W) {mx : Bool} {a b : Expr} {pa pb : Bool} {fa fb : EvF} {pn pos : Pos} {f : Str} {sc : Scope} (hs : X.env.scope = sc) (hf : f = if mx = true then "max" else "min") (hg : isGl sc f = true) (ok : okE a = true) (ok2 : okE b = true) (ha : SE X W pa a fa) (hb : SE X W pb b fb) :
    SE X W (pa && pb) (.Call (.Name f pn) [a, b] [] pos) (ev2 (P.b2 mx) pb fa fb) := by
  obtain ⟨g1, g2, g3⟩ := gl_of hs hg
  have hp : Calm (P.b2 mx) := calm_ii fun _ _ _ _ e => by cases e
  cases mx with
  | true =>
    subst hf
    refine pe_imp (pe_callB (call_max2 C.calm) g1 (C.bi _ (by decide)) (by decide +kernel) (pa_cons ha (pa_cons hb pa_nil (star_ok ok2)) (star_ok ok)) g3 g2 (star_ok ok) (by rw [star_ok ok2]; rfl)) fun σ H Q q => ?_
    show tE _ _ _ _ _ _ σ H _
    refine tE_mono (tE_2 hp q) fun x H1 q => ?_
    refine tE_mono q fun y H2 q => ?_
    obtain ⟨F, T, rs, out, gs, hr, he, q⟩ := q
    obtain ⟨i, j, d, e1, e2, e3, e4⟩ := ii_of hr he
    subst e1 e2
    cases e3
    subst e4
    exact ⟨i, j, rfl, end_flat gs q rep_int⟩
  | false =>
    subst hf
    refine pe_imp (pe_callB (call_min2 C.calm) g1 (C.bi _ (by decide)) (by decide +kernel) (pa_cons ha (pa_cons hb pa_nil (star_ok ok2)) (star_ok ok)) g3 g2 (star_ok ok) (by rw [star_ok ok2]; rfl)) fun σ H Q q => ?_
    show tE _ _ _ _ _ _ σ H _
    refine tE_mono (tE_2 hp q) fun x H1 q => ?_
    refine tE_mono q fun y H2 q => ?_
    obtain ⟨F, T, rs, out, gs, hr, he, q⟩ := q
    obtain ⟨i, j, d, e1, e2, e3, e4⟩ := ii_of hr he
    subst e1 e2
    cases e3
    subst e4
    exact ⟨i, j, rfl, end_flat gs q rep_int⟩
end
end Oa

/-! Part 21: the small language is what the text does: expressions, all. -/
namespace Oa
open PySem PySem.Spec PyProof.Rows L2
theorem ars_head {N : List Str} {fs : List (Str × Nat)} {sc : Scope} {pos : Pos} {env : Env} {es : Ars} {y : Expr} {ys : List Expr} (h : Ars.chk N fs sc es (y :: ys) = true) : okE y = true ∧ (backTo pos (starEach ys env)).any (·.1) = false := by
  cases es with
  | nil => exact absurd (show false = true from h) Bool.false_ne_true
  | r e es =>
    have h2 : (okE y && Ex.chk N fs sc e y && Ars.chk N fs sc es ys) = true := h
    simp only [Bool.and_eq_true] at h2
    exact ⟨h2.1.1, ars_plain h2.2⟩
  | w i es =>
    have h2 : (match (generalizing := false) (y :: ys) with
      | .Name x _ :: xs => isNm N sc i x && Ars.chk N fs sc es xs
      | _ => false) = true := h
    clear h
    split at h2
    · rename_i heq
      cases heq
      simp only [Bool.and_eq_true] at h2
      exact ⟨rfl, ars_plain h2.2⟩
    · cases h2
theorem isTup_of {tg : Expr} (h : (!true || isTupE tg) = true) : ∃ elts kk tp, tg = .Tuple elts kk tp := by
  cases tg <;> first | exact ⟨_, _, _, rfl⟩ | exact absurd h Bool.false_ne_true
section
variable {k : Nat} {fs : List (Str × Nat)} {cf : CfT} {cs : Str → Option D}
mutual
theorem Ex.sound : ∀ (e : Ex) {X : Cx} {W : WX} {sc : Scope} {x : Expr}, Ctx X k fs cf cs W → X.env.scope = sc → Ex.chk X.N fs sc e x = true → SO X W cf cs e x
  | .int i, X, W, sc, x, C, hs, h => by
    have h2 : (match (generalizing := false) x with
      | .Constant (.int j) _ _ => decide (i = j)
      | _ => false) = true := h
    clear h
    split at h2
    · have e : i = _ := of_decide_eq_true h2
      subst e
      exact .of (se_flat pe_int fun F => by simp only [RepD]) rfl
    · cases h2
  | .bl i, X, W, sc, x, C, hs, h => by
    have h2 : (match (generalizing := false) x with
      | .Constant (.bool j) _ _ => i == j
      | _ => false) = true := h
    clear h
    split at h2
    · have e : i = _ := eq_of_beq h2
      subst e
      exact .of (se_flat pe_bl fun F => by simp only [RepD]) rfl
    · cases h2
  | .non, X, W, sc, x, C, hs, h => by
    have h2 : (match (generalizing := false) x with
      | .Constant .none _ _ => true
      | _ => false) = true := h
    clear h
    split at h2
    · exact .of (se_flat pe_non fun F => by simp only [RepD]) rfl
    · cases h2
  | .str y, X, W, sc, x, C, hs, h => by
    have h2 : (match (generalizing := false) x with
      | .Constant (.str z) _ _ => decide (y = z)
      | _ => false) = true := h
    clear h
    split at h2
    · have e : y = _ := of_decide_eq_true h2
      subst e
      exact .of (se_flat pe_str fun F => by simp only [RepD]) rfl
    · cases h2
  | .var i, X, W, sc, x, C, hs, h => by
    have h2 : (match (generalizing := false) x with
      | .Name y _ => isNm X.N sc i y
      | _ => false) = true := h
    clear h
    split at h2
    · exact .of (se_var hs h2) rfl
    · cases h2
  | .frz i, X, W, sc, x, C, hs, h => by
    have h2 : (match (generalizing := false) x with
      | .Name y _ => isNm X.N sc i y
      | _ => false) = true := h
    clear h
    split at h2
    · exact .of (se_frz hs h2) rfl
    · cases h2
  | .mov i, X, W, sc, x, C, hs, h => by
    have h2 : (match (generalizing := false) x with
      | .Name y _ => isNm X.N sc i y
      | _ => false) = true := h
    clear h
    split at h2
    · exact .of (se_mov hs h2) rfl
    · cases h2
  | .glb y, X, W, sc, x, C, hs, h => by
    have h2 : (match (generalizing := false) x with
      | .Name z _ => decide (y = z) && isGl sc y
      | _ => false) = true := h
    clear h
    split at h2
    · simp only [Bool.and_eq_true, decide_eq_true_eq] at h2
      obtain ⟨e, h3⟩ := h2
      subst e
      exact .of (se_glb C hs h3) rfl
    · cases h2
  | .p1 p a, X, W, sc, x, C, hs, h => by
    have h2 : (match (generalizing := false) x with
      | .Call (.Name f _) [e] [] _ => decide (f = p.nm.1) && isGl sc f && Ex.chk X.N fs sc a e
      | _ => false) = true := h
    clear h
    split at h2
    · simp only [Bool.and_eq_true, decide_eq_true_eq] at h2
      obtain ⟨⟨e1, e2⟩, e3⟩ := h2
      exact .of (se_p1 C hs e1 e2 (chk_ok e3) (Ex.sound a C hs e3).se) rfl
    · cases h2
  | .p2 p a b, X, W, sc, x, C, hs, h => by
    have h2 : (match (generalizing := false) x with
      | .BinOp y o z _ => isOp p o && Ex.chk X.N fs sc a y && Ex.chk X.N fs sc b z
      | .Compare y [o] [z] _ => isCmp p o && Ex.chk X.N fs sc a y && Ex.chk X.N fs sc b z
      | .Subscript y z _ => isIx p && (Ex.chk X.N fs sc a y && Ex.chk X.N fs sc b z)
      | _ => false) = true := h
    clear h
    split at h2
    · simp only [Bool.and_eq_true, decide_eq_true_eq] at h2
      obtain ⟨⟨e1, e2⟩, e3⟩ := h2
      exact .of (se_bin e1 (Ex.sound a C hs e2).se (Ex.sound b C hs e3).se) rfl
    · simp only [Bool.and_eq_true, decide_eq_true_eq] at h2
      obtain ⟨⟨e1, e2⟩, e3⟩ := h2
      exact ⟨se_cmp C.room e1 (chk_ok e3) (Ex.sound a C hs e2).se (Ex.sound b C hs e3).se, fun _ => st_cmp C.room e1 (chk_ok e3) (Ex.sound a C hs e2).se (Ex.sound b C hs e3).se, fun _ z => absurd z Bool.false_ne_true⟩
    · rw [Bool.and_eq_true, Bool.and_eq_true] at h2
      obtain ⟨e1, e2, e3⟩ := h2
      cases p <;> first | exact absurd e1 Bool.false_ne_true | exact .of (se_idx C.room (chk_ok e3) (Ex.sound a C hs e2).se (Ex.sound b C hs e3).se) rfl
    · cases h2
  | .dct, X, W, sc, x, C, hs, h => by
    have h2 : (match (generalizing := false) x with
      | .Dict [] [] _ => true
      | _ => false) = true := h
    clear h
    split at h2
    · exact .of se_dct rfl
    · cases h2
  | .dct1 a b, X, W, sc, x, C, hs, h => by
    have h2 : (match (generalizing := false) x with
      | .Dict [some y] [z] _ => Ex.chk X.N fs sc a y && Ex.chk X.N fs sc b z
      | _ => false) = true := h
    clear h
    split at h2
    · simp only [Bool.and_eq_true, decide_eq_true_eq] at h2
      exact .of (se_dct1 C (Ex.sound a C hs h2.1).se (Ex.sound b C hs h2.2).se) rfl
    · cases h2
  | .b2 mx a b, X, W, sc, x, C, hs, h => by
    have h2 : (match (generalizing := false) x with
      | .Call (.Name f _) [y, z] [] _ => decide (f = if mx = true then "max" else "min") && isGl sc f && okE y && okE z && Ex.chk X.N fs sc a y && Ex.chk X.N fs sc b z
      | _ => false) = true := h
    clear h
    split at h2
    · simp only [Bool.and_eq_true, decide_eq_true_eq] at h2
      obtain ⟨⟨⟨⟨⟨e1, e2⟩, e3⟩, e4⟩, e5⟩, e6⟩ := h2
      exact .of (se_b2 C hs e1 e2 e3 e4 (Ex.sound a C hs e5).se (Ex.sound b C hs e6).se) rfl
    · cases h2
  | .cnt t a b, X, W, sc, x, C, hs, h => by
    have h2 : (match (generalizing := false) x with
      | .Call (.Attribute y f ap) [z] [] cp => decide (f = "count") && ap.endLine == cp.line && noBase y && okE z && Ex.chk X.N fs sc a y && Ex.chk X.N fs sc b z
      | _ => false) = true := h
    clear h
    split at h2
    · simp only [Bool.and_eq_true, decide_eq_true_eq] at h2
      obtain ⟨⟨⟨⟨⟨e2, e3⟩, e4⟩, e5⟩, e6⟩, e7⟩ := h2
      exact .of (se_cnt C e2 e3 e4 e5 (Ex.sound a C hs e6).se (Ex.sound b C hs e7).se) rfl
    · cases h2
  | .get a b, X, W, sc, x, C, hs, h => by
    have h2 : (match (generalizing := false) x with
      | .Call (.Attribute y f ap) [z] [] cp => decide (f = "get") && ap.endLine == cp.line && noBase y && okE z && Ex.chk X.N fs sc a y && Ex.chk X.N fs sc b z
      | _ => false) = true := h
    clear h
    split at h2
    · simp only [Bool.and_eq_true, decide_eq_true_eq] at h2
      obtain ⟨⟨⟨⟨⟨e2, e3⟩, e4⟩, e5⟩, e6⟩, e7⟩ := h2
      exact .of (se_get C e2 e3 e4 e5 (Ex.sound a C hs e6).se (Ex.sound b C hs e7).se) rfl
    · cases h2
  | .get3 a b c, X, W, sc, x, C, hs, h => by
    have h2 : (match (generalizing := false) x with
      | .Call (.Attribute y f ap) [z, u] [] cp => decide (f = "get") && ap.endLine == cp.line && noBase y && okE z && okE u && Ex.chk X.N fs sc a y && Ex.chk X.N fs sc b z && Ex.chk X.N fs sc c u
      | _ => false) = true := h
    clear h
    split at h2
    · simp only [Bool.and_eq_true, decide_eq_true_eq] at h2
      obtain ⟨⟨⟨⟨⟨⟨⟨e2, e3⟩, e4⟩, e5⟩, e6⟩, e7⟩, e8⟩, e9⟩ := h2
      exact .of (se_get3 C e2 e3 e4 e5 e6 (Ex.sound a C hs e7).se (Ex.sound b C hs e8).se (Ex.sound c C hs e9).se) rfl
    · cases h2
  | .ix i a, X, W, sc, x, C, hs, h => by
    have h2 : (match (generalizing := false) x with
      | .Subscript (.Name y _) z _ => isNm X.N sc i y && Ex.chk X.N fs sc a z
      | _ => false) = true := h
    clear h
    split at h2
    · simp only [Bool.and_eq_true, decide_eq_true_eq] at h2
      exact .of (se_ix C.room hs h2.1 (chk_ok h2.2) (Ex.sound a C hs h2.2).se) rfl
    · cases h2
  | .neg a, X, W, sc, x, C, hs, h => by
    have h2 : (match (generalizing := false) x with
      | .UnaryOp .USub y _ => Ex.chk X.N fs sc a y
      | _ => false) = true := h
    clear h
    split at h2
    · exact .of (se_neg (Ex.sound a C hs h2).se) rfl
    · cases h2
  | .rev a, X, W, sc, x, C, hs, h => by
    have h2 : (match (generalizing := false) x with
      | .Subscript y (.Slice none none (some (.UnaryOp .USub (.Constant (.int 1) _ _) _)) _) _ => Ex.chk X.N fs sc a y
      | _ => false) = true := h
    clear h
    split at h2
    · exact .of (se_rev (Ex.sound a C hs h2).se) rfl
    · cases h2
  | .slL a b, X, W, sc, x, C, hs, h => by
    have h2 : (match (generalizing := false) x with
      | .Subscript y (.Slice (some z) none none _) _ => Ex.chk X.N fs sc a y && Ex.chk X.N fs sc b z
      | _ => false) = true := h
    clear h
    split at h2
    · simp only [Bool.and_eq_true, decide_eq_true_eq] at h2
      exact .of (se_slL (Ex.sound a C hs h2.1).se (Ex.sound b C hs h2.2).se) rfl
    · cases h2
  | .slH a b, X, W, sc, x, C, hs, h => by
    have h2 : (match (generalizing := false) x with
      | .Subscript y (.Slice none (some z) none _) _ => Ex.chk X.N fs sc a y && Ex.chk X.N fs sc b z
      | _ => false) = true := h
    clear h
    split at h2
    · simp only [Bool.and_eq_true, decide_eq_true_eq] at h2
      exact .of (se_slH (Ex.sound a C hs h2.1).se (Ex.sound b C hs h2.2).se) rfl
    · cases h2
  | .slB a b c, X, W, sc, x, C, hs, h => by
    have h2 : (match (generalizing := false) x with
      | .Subscript y (.Slice (some z) (some u) none _) _ => Ex.chk X.N fs sc a y && Ex.chk X.N fs sc b z && Ex.chk X.N fs sc c u
      | _ => false) = true := h
    clear h
    split at h2
    · simp only [Bool.and_eq_true, decide_eq_true_eq] at h2
      exact .of (se_slB (Ex.sound a C hs h2.1.1).se (Ex.sound b C hs h2.1.2).se (Ex.sound c C hs h2.2).se) rfl
    · cases h2
  | .isi a c, X, W, sc, x, C, hs, h => by
    have h2 : (match (generalizing := false) x with
      | .Call (.Name f _) [e, .Name g _] [] _ => decide (f = "isinstance") && isGl sc f && decide (g = Str.ofString c) && isGl sc g && P.tyKnown c && Ex.chk X.N fs sc a e
      | _ => false) = true := h
    clear h
    split at h2
    · simp only [Bool.and_eq_true, decide_eq_true_eq] at h2
      obtain ⟨⟨⟨⟨⟨e1, e2⟩, e3⟩, e4⟩, e5⟩, e6⟩ := h2
      exact .of (se_isi C hs e1 e2 e3 e4 e5 (chk_ok e6) (Ex.sound a C hs e6).se) rfl
    · cases h2
  | .isi2 a c d, X, W, sc, x, C, hs, h => by
    have h2 : (match (generalizing := false) x with
      | .Call (.Name f _) [e, .Tuple [.Name g _, .Name g' _] _ _] [] _ => decide (f = "isinstance") && isGl sc f && decide (g = Str.ofString c) && isGl sc g && P.tyKnown c && decide (g' = Str.ofString d) && isGl sc g' && P.tyKnown d && Ex.chk X.N fs sc a e
      | _ => false) = true := h
    clear h
    split at h2
    · simp only [Bool.and_eq_true, decide_eq_true_eq] at h2
      obtain ⟨⟨⟨⟨⟨⟨⟨⟨e1, e2⟩, e3⟩, e4⟩, e5⟩, e6⟩, e7⟩, e8⟩, e9⟩ := h2
      exact .of (se_isi2 C hs e1 e2 e3 e4 e5 e6 e7 e8 (chk_ok e9) (Ex.sound a C hs e9).se) rfl
    · cases h2
  | .tup es, X, W, sc, x, C, hs, h => by
    have h2 : (match (generalizing := false) x with
      | .Tuple xs _ _ => Exs.chk X.N fs sc es xs
      | _ => false) = true := h
    clear h
    split at h2
    · exact .of (se_tup (Exs.sound es C hs h2)) rfl
    · cases h2
  | .lst own es, X, W, sc, x, C, hs, h => by
    have h2 : (match (generalizing := false) x with
      | .List xs _ => Exs.chk X.N fs sc es xs
      | _ => false) = true := h
    clear h
    split at h2
    · exact .of (se_lst (Exs.sound es C hs h2)) rfl
    · cases h2
  | .and a b, X, W, sc, x, C, hs, h => by
    have h2 : (match (generalizing := false) x with
      | .BoolOp .And (y :: z :: r) pos => Ex.chk X.N fs sc a y && (match r with
        | [] => Ex.chk X.N fs sc b z
        | _ => Ex.chk X.N fs sc b (.BoolOp .And (z :: r) pos))
      | _ => false) = true := h
    clear h
    split at h2
    · rename_i y z r pos
      rw [Bool.and_eq_true] at h2
      obtain ⟨e1, e2⟩ := h2
      have sa := Ex.sound a C hs e1
      cases r with
      | nil =>
        have sb := Ex.sound b C hs (show Ex.chk X.N fs sc b z = true from e2)
        have w : (Ex.and a b).tst = true → SW X W (Ex.and a b).pu (.BoolOp .And [y, z] pos) ((Ex.and a b).ev cf cs) := fun t => by
          have t2 : (a.tst && b.tst) = true := t
          rw [Bool.and_eq_true] at t2
          exact sw_and (sa.st t2.1) (pw_and1 (sb.st t2.2))
        exact ⟨se_and sa.se (pe_one sb.se), fun t => (w t).pt, fun t _ => w t⟩
      | cons r0 r =>
        have sb := Ex.sound b C hs (show Ex.chk X.N fs sc b (.BoolOp .And (z :: r0 :: r) pos) = true from e2)
        have w : (Ex.and a b).tst = true → SW X W (Ex.and a b).pu (.BoolOp .And (y :: z :: r0 :: r) pos) ((Ex.and a b).ev cf cs) := fun t => by
          have t2 : (a.tst && b.tst) = true := t
          rw [Bool.and_eq_true] at t2
          exact sw_and (sa.st t2.1) (sb.sw t2.2 rfl)
        exact ⟨se_and sa.se sb.se, fun t => (w t).pt, fun t _ => w t⟩
    · cases h2
  | .or a b, X, W, sc, x, C, hs, h => by
    have h2 : (match (generalizing := false) x with
      | .BoolOp .Or (y :: z :: r) pos => Ex.chk X.N fs sc a y && (match r with
        | [] => Ex.chk X.N fs sc b z
        | _ => Ex.chk X.N fs sc b (.BoolOp .Or (z :: r) pos))
      | _ => false) = true := h
    clear h
    split at h2
    · rename_i y z r pos
      rw [Bool.and_eq_true] at h2
      obtain ⟨e1, e2⟩ := h2
      have sa := Ex.sound a C hs e1
      cases r with
      | nil =>
        have sb := Ex.sound b C hs (show Ex.chk X.N fs sc b z = true from e2)
        have w : (Ex.or a b).tst = true → SW X W (Ex.or a b).pu (.BoolOp .Or [y, z] pos) ((Ex.or a b).ev cf cs) := fun t => by
          have t2 : (a.tst && b.tst) = true := t
          rw [Bool.and_eq_true] at t2
          exact sw_or (sa.st t2.1) (pw_or1 (sb.st t2.2))
        exact ⟨se_or sa.se (pe_one sb.se), fun t => (w t).pt, fun t _ => w t⟩
      | cons r0 r =>
        have sb := Ex.sound b C hs (show Ex.chk X.N fs sc b (.BoolOp .Or (z :: r0 :: r) pos) = true from e2)
        have w : (Ex.or a b).tst = true → SW X W (Ex.or a b).pu (.BoolOp .Or (y :: z :: r0 :: r) pos) ((Ex.or a b).ev cf cs) := fun t => by
          have t2 : (a.tst && b.tst) = true := t
          rw [Bool.and_eq_true] at t2
          exact sw_or (sa.st t2.1) (sb.sw t2.2 rfl)
        exact ⟨se_or sa.se sb.se, fun t => (w t).pt, fun t _ => w t⟩
    · cases h2
  | .not a, X, W, sc, x, C, hs, h => by
    have h2 : (match (generalizing := false) x with
      | .UnaryOp .Not y _ => Ex.chk X.N fs sc a y
      | _ => false) = true := h
    clear h
    split at h2
    · exact ⟨se_not (Ex.sound a C hs h2).se, fun t => st_not ((Ex.sound a C hs h2).st t), fun _ z => absurd z Bool.false_ne_true⟩
    · cases h2
  | .ite c a b, X, W, sc, x, C, hs, h => by
    have h2 : (match (generalizing := false) x with
      | .IfExp u y z _ => c.tst && Ex.chk X.N fs sc c u && Ex.chk X.N fs sc a y && Ex.chk X.N fs sc b z
      | _ => false) = true := h
    clear h
    split at h2
    · simp only [Bool.and_eq_true, decide_eq_true_eq] at h2
      obtain ⟨⟨⟨e1, e2⟩, e3⟩, e4⟩ := h2
      exact ⟨se_ite ((Ex.sound c C hs e2).st e1) (Ex.sound a C hs e3).se (Ex.sound b C hs e4).se, fun t => absurd t Bool.false_ne_true, fun t _ => absurd t Bool.false_ne_true⟩
    · cases h2
  | .cmp2 p q a b c, X, W, sc, x, C, hs, h => by
    have h2 : (match (generalizing := false) x with
      | .Compare y [o, u] [z, v] _ => cmpOk p && cmpOk q && isCmp p o && isCmp q u && Ex.chk X.N fs sc a y && Ex.chk X.N fs sc b z && Ex.chk X.N fs sc c v
      | _ => false) = true := h
    clear h
    split at h2
    · simp only [Bool.and_eq_true, decide_eq_true_eq] at h2
      obtain ⟨⟨⟨⟨⟨⟨e1, e2⟩, e3⟩, e4⟩, e5⟩, e6⟩, e7⟩ := h2
      exact ⟨se_cmp2 e3 e4 e1 e2 (chk_ok e7) (Ex.sound a C hs e5).se (Ex.sound b C hs e6).se (Ex.sound c C hs e7).se, fun _ => st_cmp2 e3 e4 e1 e2 (chk_ok e7) (Ex.sound a C hs e5).se (Ex.sound b C hs e6).se (Ex.sound c C hs e7).se, fun _ z => absurd z Bool.false_ne_true⟩
    · cases h2
  | .call f es, X, W, sc, x, C, hs, h => by
    have h2 : (match (generalizing := false) x with
      | .Call (.Name g _) (y :: ys) [] _ => decide (f = g) && isGl sc f && decide (fs.lookup f = some es.len) && decide (es.len < 100) && Ars.chk X.N fs sc es (y :: ys)
      | .Call (.Name g _) [] [] _ => decide (f = g) && isGl sc f && decide (fs.lookup f = some 0) && es.none
      | _ => false) = true := h
    clear h
    split at h2
    · simp only [Bool.and_eq_true, decide_eq_true_eq] at h2
      obtain ⟨⟨⟨⟨e1, e2⟩, e3⟩, e7⟩, e4⟩ := h2
      obtain ⟨e5, e6⟩ := ars_head (env := X.env) e4
      exact .of (se_call C hs e1 e2 e3 e7 e5 e6 (fun _ _ _ => ars_noW) (fun _ _ _ => ars_len) (Ars.sound es C hs e4)) rfl
    · simp only [Bool.and_eq_true, decide_eq_true_eq] at h2
      obtain ⟨⟨⟨e1, e2⟩, e3⟩, e4⟩ := h2
      cases es with
      | nil => exact .of (se_call0 C hs e1 e2 e3) rfl
      | r _ _ => exact absurd e4 Bool.false_ne_true
      | w _ _ => exact absurd e4 Bool.false_ne_true
    · cases h2
  | .pop i, X, W, sc, x, C, hs, h => by
    have h2 : (match (generalizing := false) x with
      | .Call (.Attribute (.Name y _) a ap) [] [] cp => decide (a = "pop") && isNm X.N sc i y && ap.endLine == cp.line
      | _ => false) = true := h
    clear h
    split at h2
    · simp only [Bool.and_eq_true, decide_eq_true_eq] at h2
      exact .of (se_pop hs h2.1.1 h2.1.2 h2.2) rfl
    · cases h2
  | .popAt i b, X, W, sc, x, C, hs, h => by
    have h2 : (match (generalizing := false) x with
      | .Call (.Attribute (.Name y _) a ap) [e] [] cp => decide (a = "pop") && isNm X.N sc i y && ap.endLine == cp.line && Ex.chk X.N fs sc b e
      | _ => false) = true := h
    clear h
    split at h2
    · simp only [Bool.and_eq_true, decide_eq_true_eq] at h2
      exact .of (se_popAt hs h2.1.1.1 h2.1.1.2 h2.1.2 (chk_ok h2.2) (Ex.sound b C hs h2.2).se) rfl
    · cases h2
  | .lrng1 a, X, W, sc, x, C, hs, h => by
    have h2 : (match (generalizing := false) x with
      | .Call (.Name f _) [.Call (.Name g _) [e] [] _] [] _ => decide (f = "list") && isGl sc f && decide (g = "range") && isGl sc g && Ex.chk X.N fs sc a e
      | _ => false) = true := h
    clear h
    split at h2
    · simp only [Bool.and_eq_true, decide_eq_true_eq] at h2
      obtain ⟨⟨⟨⟨e1, e2⟩, e3⟩, e4⟩, e5⟩ := h2
      exact .of (se_lrng1 C hs e1 e2 e3 e4 (chk_ok e5) (Ex.sound a C hs e5).se) rfl
    · cases h2
  | .comp own elt t it cd, X, W, sc, x, C, hs, h => by
    have h2 : (match (generalizing := false) x with
      | .ListComp e [⟨tg, iter, ifs, 0⟩] scope _ => Itx.chk X.N fs sc it iter && Tg.chk X.N true scope t tg && Ex.chk X.N fs (relS scope sc) elt e && Exs.chk X.N fs (relS scope sc) cd ifs && cd.tst1 && (!it.needT || isTupE tg) && blkC X.N sc scope (ownOf t tg) && decide ((ownOf t tg).map (·.2) = t.slots) && okE iter
      | _ => false) = true := h
    clear h
    split at h2
    · simp only [Bool.and_eq_true, decide_eq_true_eq] at h2
      rename_i e tg iter ifs scope pos
      obtain ⟨⟨⟨⟨⟨⟨⟨⟨e1, e2⟩, e3⟩, e4⟩, e5⟩, e6⟩, e7⟩, e8⟩, e9⟩ := h2
      refine .of (se_comp C hs (Itx.sound it C hs e1 e6) e2 e7 e8 e9 (fun s H c cl fp => ?_) (fun s H c cl fp => (Ex.sound elt (ctx_blk C s H _ c cl fp) (by subst hs; rfl) e3).se)) rfl
      have C2 := ctx_blk C s H scope c cl fp
      exact Exs.sound1 cd C2 (by subst hs; rfl) e5 e4
    · cases h2
theorem Exs.sound : ∀ (es : Exs) {X : Cx} {W : WX} {sc : Scope} {xs : List Expr}, Ctx X k fs cf cs W → X.env.scope = sc → Exs.chk X.N fs sc es xs = true → PA X xs (tAs X.K X.w X.mg W es.pu (es.evs cf cs))
  | .nil, X, W, sc, x, C, hs, h => by
    have h2 : (match (generalizing := false) x with
      | [] => true
      | _ => false) = true := h
    clear h
    split at h2
    · exact pa_imp pa_nil fun σ H Q q => tAs_nil q
    · cases h2
  | .cons e es, X, W, sc, x, C, hs, h => by
    have h2 : (match (generalizing := false) x with
      | x :: xs => okE x && Ex.chk X.N fs sc e x && Exs.chk X.N fs sc es xs
      | _ => false) = true := h
    clear h
    split at h2
    · simp only [Bool.and_eq_true] at h2
      exact pa_imp (pa_cons (Ex.sound e C hs h2.1.2).se (Exs.sound es C hs h2.2) (star_ok h2.1.1)) fun σ H Q q => tAs_cons q
    · cases h2
theorem Exs.sound1 : ∀ (es : Exs) {X : Cx} {sc : Scope} {xs : List Expr}, Ctx X k fs cf cs W0 → X.env.scope = sc → es.tst1 = true → Exs.chk X.N fs sc es xs = true → PTs X xs (tCond X.K X.w es.pu (es.evc cf cs))
  | .nil, X, sc, x, C, hs, ht, h => by
    have h2 : (match (generalizing := false) x with
      | [] => true
      | _ => false) = true := h
    clear h
    split at h2
    · exact cond_nil
    · cases h2
  | .cons e .nil, X, sc, x, C, hs, ht, h => by
    have h2 : (match (generalizing := false) x with
      | x :: xs => okE x && Ex.chk X.N fs sc e x && Exs.chk X.N fs sc .nil xs
      | _ => false) = true := h
    clear h
    split at h2
    · rename_i y ys
      simp only [Bool.and_eq_true] at h2
      have e1 : ys = [] := by
        cases ys with
        | nil => rfl
        | cons a b => exact absurd (show false = true from h2.2) Bool.false_ne_true
      subst e1
      have q := cond_one ((Ex.sound e C hs h2.1.2).st ht)
      have e2 : (Exs.cons e .nil).pu = e.pu := Bool.and_true e.pu
      rw [e2]
      exact q
    · cases h2
  | .cons e (.cons _ _), X, sc, x, C, hs, ht, h => absurd (show false = true from ht) Bool.false_ne_true
theorem Ars.sound : ∀ (es : Ars) {X : Cx} {W : WX} {sc : Scope} {xs : List Expr}, Ctx X k fs cf cs W → X.env.scope = sc → Ars.chk X.N fs sc es xs = true → PA X xs (tAr X.K X.w X.mg W es.pu (es.eva cf cs))
  | .nil, X, W, sc, x, C, hs, h => by
    have h2 : (match (generalizing := false) x with
      | [] => true
      | _ => false) = true := h
    clear h
    split at h2
    · exact pa_imp pa_nil fun σ H Q q => tAr_nil q
    · cases h2
  | .r e es, X, W, sc, x, C, hs, h => by
    have h2 : (match (generalizing := false) x with
      | x :: xs => okE x && Ex.chk X.N fs sc e x && Ars.chk X.N fs sc es xs
      | _ => false) = true := h
    clear h
    split at h2
    · simp only [Bool.and_eq_true] at h2
      exact pa_imp (pa_cons (Ex.sound e C hs h2.1.2).se (Ars.sound es C hs h2.2) (star_ok h2.1.1)) fun σ H Q q => tAr_r q
    · cases h2
  | .w i es, X, W, sc, x, C, hs, h => by
    have h2 : (match (generalizing := false) x with
      | .Name x _ :: xs => isNm X.N sc i x && Ars.chk X.N fs sc es xs
      | _ => false) = true := h
    clear h
    split at h2
    · simp only [Bool.and_eq_true] at h2
      have sd := Ars.sound es C hs h2.2
      subst hs
      obtain ⟨h1, h3, h4, h5⟩ := vis_of h2.1
      exact pa_imp (pa_cons (pe_var h1 h3 h4 h5) sd rfl) fun σ H Q q => tAr_w q
    · cases h2
theorem Itx.sound : ∀ (it : Itx) {X : Cx} {W : WX} {sc : Scope} {pe : Bool} {tg x : Expr}, Ctx X k fs cf cs W → X.env.scope = sc → Itx.chk X.N fs sc it x = true → (!it.needT || isTupE tg) = true → SI X W it.pu pe tg x (it.evi cf cs pe)
  | .ex e, X, W, sc, pe, tg, x, C, hs, h, ht => by
    have h2 : (okE x && Ex.chk X.N fs sc e x) = true := h
    rw [Bool.and_eq_true] at h2
    exact si_ex (Ex.sound e C hs h2.2).se
  | .rng1 a, X, W, sc, pe, tg, x, C, hs, h, ht => by
    have h2 : (match (generalizing := false) x with
      | .Call (.Name f _) [e] [] _ => decide (f = "range") && isGl sc f && okE e && Ex.chk X.N fs sc a e
      | _ => false) = true := h
    clear h
    split at h2
    · simp only [Bool.and_eq_true, decide_eq_true_eq] at h2
      obtain ⟨⟨⟨e1, e2⟩, e3⟩, e4⟩ := h2
      exact si_rng1 C hs e1 e2 e3 (Ex.sound a C hs e4).se
    · cases h2
  | .rng2 a b, X, W, sc, pe, tg, x, C, hs, h, ht => by
    have h2 : (match (generalizing := false) x with
      | .Call (.Name f _) [y, z] [] _ => decide (f = "range") && isGl sc f && okE y && okE z && Ex.chk X.N fs sc a y && Ex.chk X.N fs sc b z
      | _ => false) = true := h
    clear h
    split at h2
    · simp only [Bool.and_eq_true, decide_eq_true_eq] at h2
      obtain ⟨⟨⟨⟨⟨e1, e2⟩, e3⟩, e4⟩, e5⟩, e6⟩ := h2
      exact si_rng2 C hs e1 e2 e3 e4 (Ex.sound a C hs e5).se (Ex.sound b C hs e6).se
    · cases h2
  | .rngD a b, X, W, sc, pe, tg, x, C, hs, h, ht => by
    have h2 : (match (generalizing := false) x with
      | .Call (.Name f _) [y, z, .UnaryOp .USub (.Constant (.int 1) _ _) _] [] _ => decide (f = "range") && isGl sc f && okE y && okE z && Ex.chk X.N fs sc a y && Ex.chk X.N fs sc b z
      | _ => false) = true := h
    clear h
    split at h2
    · simp only [Bool.and_eq_true, decide_eq_true_eq] at h2
      obtain ⟨⟨⟨⟨⟨e1, e2⟩, e3⟩, e4⟩, e5⟩, e6⟩ := h2
      exact si_rngD C hs e1 e2 e3 e4 (Ex.sound a C hs e5).se (Ex.sound b C hs e6).se
    · cases h2
  | .vals a, X, W, sc, pe, tg, x, C, hs, h, ht => by
    have h2 : (match (generalizing := false) x with
      | .Call (.Attribute y f ap) [] [] cp => decide (f = "values") && ap.endLine == cp.line && noBase y && Ex.chk X.N fs sc a y
      | _ => false) = true := h
    clear h
    split at h2
    · simp only [Bool.and_eq_true, decide_eq_true_eq] at h2
      obtain ⟨⟨⟨e1, e2⟩, e3⟩, e4⟩ := h2
      exact si_vals e1 e2 e3 (Ex.sound a C hs e4).se
    · cases h2
  | .items a, X, W, sc, pe, tg, x, C, hs, h, ht => by
    have h2 : (match (generalizing := false) x with
      | .Call (.Attribute y f ap) [] [] cp => decide (f = "items") && ap.endLine == cp.line && noBase y && Ex.chk X.N fs sc a y
      | _ => false) = true := h
    clear h
    split at h2
    · simp only [Bool.and_eq_true, decide_eq_true_eq] at h2
      obtain ⟨⟨⟨e1, e2⟩, e3⟩, e4⟩ := h2
      obtain ⟨elts, kk, tp, rfl⟩ := isTup_of ht
      exact si_items e1 e2 e3 (Ex.sound a C hs e4).se
    · cases h2
  | .enu a, X, W, sc, pe, tg, x, C, hs, h, ht => by
    have h2 : (match (generalizing := false) x with
      | .Call (.Name f _) [y] [] _ => decide (f = "enumerate") && isGl sc f && okE y && Ex.chk X.N fs sc a y
      | _ => false) = true := h
    clear h
    split at h2
    · simp only [Bool.and_eq_true, decide_eq_true_eq] at h2
      obtain ⟨⟨⟨e1, e2⟩, e3⟩, e4⟩ := h2
      obtain ⟨elts, kk, tp, rfl⟩ := isTup_of ht
      exact si_enu C hs e1 e2 e3 (Ex.sound a C hs e4).se
    · cases h2
  | .zip a b, X, W, sc, pe, tg, x, C, hs, h, ht => by
    have h2 : (match (generalizing := false) x with
      | .Call (.Name f _) [y, z] [] _ => decide (f = "zip") && isGl sc f && okE y && okE z && Ex.chk X.N fs sc a y && Ex.chk X.N fs sc b z
      | _ => false) = true := h
    clear h
    split at h2
    · simp only [Bool.and_eq_true, decide_eq_true_eq] at h2
      obtain ⟨⟨⟨⟨⟨e1, e2⟩, e3⟩, e4⟩, e5⟩, e6⟩ := h2
      obtain ⟨elts, kk, tp, rfl⟩ := isTup_of ht
      exact si_zip C hs e1 e2 e3 e4 (Ex.sound a C hs e5).se (Ex.sound b C hs e6).se
    · cases h2
end
end
end Oa

/-! Part 22: statements: the small language, what it does, which text it is. -/
namespace Oa
open PySem PySem.Spec PyProof.Rows L2
/-- a plain constant -/
inductive Atm where
  | str (x : Str) | int (i : Int) | bool (b : Bool) | none
def Atm.d : Atm → D
  | .str x => .str x
  | .int i => .int i
  | .bool b => .bool b
  | .none => .none
mutual
inductive St where
  | set (i : Nat) (e : Ex) | setT (t : Tg) (e : Ex) | par (i j : Nat) (a b : Ex) | aug (i : Nat) (p : P2) (e : Ex)
  | app (i : Nat) (e : Ex) | appX (i : Nat) (a e : Ex) | ext (i : Nat) (e : Ex) | setI (i : Nat) (a e : Ex) | putD (i : Nat) (a e : Ex) | rev (i : Nat) | rem (i : Nat) (e : Ex)
  | ex (e : Ex) | ret (e : Ex) | retN | ite (c : Ex) (a b : Sts) | iteI (c : Ex) (a b : Sts) | forS (t : Tg) (it : Itx) (b : Sts) | whl (c : Ex) (b : Sts) | brk | cont | pas
  | never
  | sda (i : Nat) (a : Ex) (j : Nat) | augI (i : Nat) (p : P2) (a e : Ex)
  | rai (c : Str) | tri (b : Sts) (as : List Nat) (hs : List (Str × Nat × Atm)) (kn : List Str)
inductive Sts where
  | nil | cons (s : St) (r : Sts)
end
inductive Out where
  | nx (m : Sl) | bk (m : Sl) | ct (m : Sl) | rt (k : M) (m : Sl)
abbrev StF := Sl → Res Out
/-- what is stored -/
def ownM : Rv → Option M
  | .o k => some k
  | .b (.d x) => some (.d x)
  | .b _ => none
def putS (i : Nat) (k : M) (m : Sl) : Option Sl := if i < m.length then some (m.set i (some k)) else none
def outN : Option Sl → Res Out
  | some m => .ok (.nx m)
  | none => .bad
/-- appended -/
def addTo (k : M) (r : Rv) : Option M := match k with
  | .v xs => if xs.length < big then (match keepM false r with
    | some (.d d) => some (.v (xs ++ [d]))
    | _ => none) else none
  | .l ms => if ms.length < big then (keepM true r).map fun q => .l (ms ++ [q]) else none
  | _ => none
def addAt (k : M) (j : Int) (r : Rv) : Option M := match k with
  | .l ms => (match L2.ixN ms.length j with
    | some i => (match ms[i]? with
      | some (.v xs) => (addTo (.v xs) r).map fun q => .l (ms.set i q)
      | _ => none)
    | none => none)
  | _ => none
def setTo (k : M) (j : Int) (r : Rv) : Option M := match k with
  | .v xs => (match L2.ixN xs.length j with
    | some i => (match keepM false r with
      | some (.d d) => some (.v (xs.set i d))
      | _ => none)
    | none => none)
  | _ => none
def forF (t : Tg) (body : StF) : List D → StF
  | [], m => .ok (.nx m)
  | d :: ds, m => match t.put d m with
    | none => .bad
    | some m1 => match body m1 with
      | .ok (.nx m2) => forF t body ds m2
      | .ok (.ct m2) => forF t body ds m2
      | .ok (.bk m2) => .ok (.nx m2)
      | .ok (.rt k m2) => .ok (.rt k m2)
      | .er c x => .er c x
      | .bad => .bad
def whlF (c : Sl → Res (Bool × Sl)) (body : StF) : Nat → StF
  | 0, _ => .bad
  | n + 1, m => match c m with
    | .ok (false, m1) => .ok (.nx m1)
    | .ok (true, m1) => (match body m1 with
      | .ok (.nx m2) => whlF c body n m2
      | .ok (.ct m2) => whlF c body n m2
      | .ok (.bk m2) => .ok (.nx m2)
      | .ok (.rt k m2) => .ok (.rt k m2)
      | .er c x => .er c x
      | .bad => .bad)
    | .er c x => .er c x
    | .bad => .bad
def seqF (a b : StF) : StF := fun m => match a m with
  | .ok (.nx m1) => b m1
  | x => x
def setF (i : Nat) (fe : EvF) : StF := fun m => (fe m).bind fun (r, m1) => match ownM r with
  | some k => outN (putS i k m1)
  | none => .bad
def setTF (t : Tg) (fe : EvF) : StF := fun m => (fe m).bind fun (r, m1) => match r.pure? with
  | some d => outN (t.put d m1)
  | none => .bad
def parF (i j : Nat) (fs : EvsF) : StF := fun m => (fs m).bind fun (rs, m1) => match pures rs with
  | some [d, e] => outN ((putS i (.d d) m1).bind (putS j (.d e)))
  | _ => .bad
def augI (p : P2) (a b : Int) : Option Int := match p with
  | .add => some (a + b)
  | .sub => some (a - b)
  | _ => none
def augF (i : Nat) (p : P2) (fe : EvF) : StF := fun m => match m[i]? with
  | some (some (.d (.int a))) => (fe m).bind fun (r, m1) => (match r.m.int? with
    | some b => (match augI p a b with
      | some c => outN (putS i (.d (.int c)) m1)
      | none => .bad)
    | none => .bad)
  | _ => .bad
def M.isLst : M → Bool
  | .v _ | .l _ => true
  | _ => false
/-- what an expression gives is worked into slot i -/
def upG (i : Nat) (g : M → Rv → Option M) (fe : EvF) : EvF := fun m => (fe m).bind fun (r, m1) => match m1[i]? with
  | some (some k) => (match g k r with
    | some k' => .ok (.p .none, m1.set i (some k'))
    | none => .bad)
  | _ => .bad
def upF (i : Nat) (g : M → Rv → Option M) (fe : EvF) : EvF := atF M.isLst i (upG i g fe)
def isLV (j : Int) : M → Bool
  | .l ms => (match L2.ixN ms.length j with
    | some i => (match ms[i]? with
      | some (.v _) => true
      | _ => false)
    | none => false)
  | _ => false
/-- as upF, in an item -/
def upIF (i : Nat) (g : M → Int → Rv → Option M) (fa fe : EvF) : EvF := atF M.isLst i (intB fa fun j => atF (isLV j) i (upG i (fun k r => g k j r) fe))
def extTo (k : M) (r : Rv) : Option M := match k, r.m.items with
  | .v xs, some (false, ys) => if xs.length + ys.length ≤ big then some (.v (xs ++ ys)) else none
  | _, _ => none
def remTo (k : M) (r : Rv) : Option M := match k, r.m.int? with
  | .v xs, some j => (match P.intsOf xs with
    | some ns => if j ∈ ns then some (.v ((ns.eraseIdx (ns.idxOf j)).map .int)) else none
    | none => none)
  | _, _ => none
def setIF (i : Nat) (pa : Bool) (fe fa : EvF) : StF := fun m => (arR pa fe (arW i (arR true fa arNil)) m).bind fun (as, m1) => match as with
  | [.r r, .w _, .r q] => (match q.m.int?, m1[i]? with
    | some j, some (some k) => (match setTo k j r with
      | some k' => .ok (.nx (m1.set i (some k')))
      | none => .bad)
    | _, _ => .bad)
  | _ => .bad
/-- x[a] = e, x a dict -/
def putTo (k : M) (q r : Rv) : Option M := match k, q.m with
  | .m kvs, .d kd => if (kOk kvs kd && decide (kvs.length < big)) = true then (match keepM false r with
    | some (.d d) => some (.m (putK' kvs kd d))
    | _ => none) else none
  | _, _ => none
/-- x[a] op= e -/
def augAtH (i : Nat) (p : P2) (c j : Int) (r : Rv) : StF := fun m2 => match r.m.int?, m2[i]? with
  | some b, some (some k) => (match augI p c b with
    | some z => (match setTo k j (.p (.int z)) with
      | some k' => .ok (.nx (m2.set i (some k')))
      | none => .bad)
    | none => .bad)
  | _, _ => .bad
def augAtG (i : Nat) (p : P2) (fe : EvF) (q : Rv) : StF := fun m1 => match q.m.int?, m1[i]? with
  | some j, some (some (.v xs)) => (match L2.ixN xs.length j with
    | some n => (match xs[n]? with
      | some (.int c) => (fe m1).bind fun (r, m2) => augAtH i p c j r m2
      | _ => .bad)
    | none => .bad)
  | _, _ => .bad
def augAtF (i : Nat) (p : P2) (fa fe : EvF) : StF := fun m => match m[i]? with
  | some (some _) => (fa m).bind fun (q, m1) => augAtG i p fe q m1
  | _ => .bad
def hfind (c : Str) : List (Str × Nat × Atm) → Option (Nat × Atm)
  | [] => none
  | (h, x) :: r => if mat c h = true then some x else hfind c r
/-- what is known behind an error -/
def cleanF (as : List Nat) : Nat → Sl → Sl
  | _, [] => []
  | i, x :: m => (if i ∈ as then none else match x with
    | some (.d d) => some (.d d)
    | _ => none) :: cleanF as (i + 1) m
def triF (as : List Nat) (hs : List (Str × Nat × Atm)) (kn : List Str) (fb : StF) : StF := fun m => match fb m with
  | .er c x => if c ∈ kn then (match hfind c hs with
    | some (i, d) => outN (putS i (.d d.d) (cleanF as 0 m))
    | none => .er c x) else .bad
  | r => r
def atomsK (ks : List D) : Bool := ks.all fun x => (atomKey x).isSome
/-- x.setdefault(k, []).append(d) -/
def sdaTo (k : M) (kd d : D) : Option M := match k with
  | .m [] => some (.g [kd] [.v [d]])
  | .g ks ms => if (atomsK ks && decide (ks.length < big)) = true then (match ks.findIdx? fun x => decide (keyOf x = keyOf kd) with
    | some n => (match ms[n]? with
      | some (.v xs) => if xs.length < big then some (.g ks (ms.set n (.v (xs ++ [d])))) else none
      | _ => none)
    | none => some (.g (ks ++ [kd]) (ms ++ [.v [d]]))) else none
  | _ => none
def M.isG : M → Bool
  | .g _ _ => true
  | .m [] => true
  | _ => false
def sdaG (i j : Nat) (kd : Int) : EvF := fun m => match m[i]?, m[j]? with
  | some (some k), some (some (.d d)) => (match sdaTo k (.int kd) d with
    | some k' => .ok (.p .none, m.set i (some k'))
    | none => .bad)
  | _, _ => .bad
def sdaE (i j : Nat) (fa : EvF) : EvF := atF M.isG i (intB fa (sdaG i j))
def putDF (i : Nat) (pa : Bool) (fe fa : EvF) : StF := fun m => (arR pa fe (arW i (arR true fa arNil)) m).bind fun (as, m1) => match as with
  | [.r r, .w _, .r q] => (match m1[i]? with
    | some (some k) => (match putTo k q r with
      | some k' => .ok (.nx (m1.set i (some k')))
      | none => .bad)
    | _ => .bad)
  | _ => .bad
def dropF (fe : EvF) : StF := fun m => (fe m).bind fun (_, m1) => .ok (.nx m1)
def retF (fe : EvF) : StF := fun m => (fe m).bind fun (r, m1) => match ownM r with
  | some k => .ok (.rt k m1)
  | none => .bad
def iteS (c : Sl → Res (Bool × Sl)) (a b : StF) : StF := fun m => (c m).bind fun (t, m1) => if t = true then a m1 else b m1
/-- an int as a test -/
def condI (fc : EvF) : Sl → Res (Bool × Sl) := fun m => (fc m).bind fun (r, m1) => match r.m.int? with
  | some i => .ok (i != 0, m1)
  | none => .bad
section
variable (cf : CfT) (cs : Str → Option D) (fu : Nat)
mutual
def St.pu : St → Bool
  | .set _ e | .setT _ e | .aug _ _ e | .ex e | .ret e => e.pu
  | .par _ _ a b => a.pu && b.pu
  | .app _ _ | .appX _ _ _ | .ext _ _ | .setI _ _ _ | .putD _ _ _ | .rev _ | .rem _ _ | .sda _ _ _ | .augI _ _ _ _ | .tri _ _ _ _ => false
  | .retN | .brk | .cont | .pas | .never | .rai _ => true
  | .ite c a b => c.pu && (a.pu && b.pu)
  | .iteI c a b => c.pu && (a.pu && b.pu)
  | .forS _ it b => it.pu && b.pu
  | .whl c b => c.pu && b.pu
def Sts.pu : Sts → Bool
  | .nil => true
  | .cons s r => s.pu && r.pu
end
mutual
def St.run : St → StF
  | .set i e => setF i (e.ev cf cs)
  | .setT t e => setTF t (e.ev cf cs)
  | .par i j a b => parF i j (evsCons b.pu (a.ev cf cs) (evsCons true (b.ev cf cs) evsNil))
  | .aug i p e => augF i p (e.ev cf cs)
  | .app i e => dropF (upF i addTo (e.ev cf cs))
  | .appX i a e => dropF (upIF i addAt (a.ev cf cs) (e.ev cf cs))
  | .ext i e => dropF (upF i extTo (e.ev cf cs))
  | .setI i a e => setIF i a.pu (e.ev cf cs) (a.ev cf cs)
  | .putD i a e => putDF i a.pu (e.ev cf cs) (a.ev cf cs)
  | .rev i => fun m => match m[i]? with
    | some (some (.v xs)) => .ok (.nx (m.set i (some (.v xs.reverse))))
    | _ => .bad
  | .rem i e => dropF (upF i remTo (e.ev cf cs))
  | .ex e => dropF (e.ev cf cs)
  | .sda i a j => dropF (sdaE i j (a.ev cf cs))
  | .ret e => retF (e.ev cf cs)
  | .retN => fun m => .ok (.rt (.d .none) m)
  | .ite c a b => iteS (condF (c.ev cf cs)) a.runs b.runs
  | .iteI c a b => iteS (condI (c.ev cf cs)) a.runs b.runs
  | .forS t it b => fun m => (it.evi cf cs b.pu m).bind fun (ds, m1) => forF t b.runs ds m1
  | .whl c b => whlF (condF (c.ev cf cs)) b.runs fu
  | .brk => fun m => .ok (.bk m)
  | .cont => fun m => .ok (.ct m)
  | .pas => fun m => .ok (.nx m)
  | .never => fun _ => .bad
  | .augI i p a e => augAtF i p (a.ev cf cs) (e.ev cf cs)
  | .rai c => fun _ => .er c none
  | .tri b as hs kn => triF as hs kn b.runs
def Sts.runs : Sts → StF
  | .nil => fun m => .ok (.nx m)
  | .cons s r => seqF s.run r.runs
end
end
/-! ### which text it is -/
section
variable (N : List Str) (fs : List (Str × Nat))
def isComp : Expr → Bool
  | .ListComp _ _ _ _ | .SetComp _ _ _ _ | .DictComp _ _ _ _ _ => true
  | _ => false
def isLC : Expr → Bool
  | .ListComp _ _ _ _ => true
  | _ => false
def Tg.subs : Tg → List Tg
  | .t ts => ts
  | _ => []
def Tg.isT : Tg → Bool
  | .t _ => true
  | _ => false
/-- a, b = u, v stored from the right -/
def parOk (sc : Scope) (x y : Str) (px py : Pos) (u v : Expr) : Bool := decide (sc.names.lookup x = some .local) && decide (sc.names.lookup y = some .local) && (px.line == py.line) && !(x == y) && okE u && okE v && !([u, v].all (foldedForSure 8)) && !([u, v].all (constantsAlone 8))
def augOk : P2 → Operator → Bool
  | .add, .Add | .sub, .Sub => true
  | _, _ => false
/-- the text of a plain constant -/
def Atm.chk : Atm → Expr → Bool
  | .str x, e0 => (match e0 with
    | .Constant (.str y) _ _ => decide (x = y)
    | _ => false)
  | .int i, e0 => (match e0 with
    | .Constant (.int j) _ _ => decide (i = j)
    | _ => false)
  | .bool b, e0 => (match e0 with
    | .Constant (.bool c) _ _ => decide (b = c)
    | _ => false)
  | .none, e0 => (match e0 with
    | .Constant .none _ _ => true
    | _ => false)
/-- an except clause's text -/
def hdChk (as : List Nat) (sc : Scope) (kn : List Str) (q : Str × Nat × Atm) (h : ExceptHandler) : Bool := match h with
  | .ExceptHandler (some (.Name x _)) none [.Assign [.Name y _] v _] _ => decide (x = q.1) && isGl sc x && decide (x ∈ kn) && isSt N true sc q.2.1 y && decide (q.2.1 ∈ as) && Atm.chk q.2.2 v
  | _ => false
def hdsChk (as : List Nat) (sc : Scope) (kn : List Str) : List (Str × Nat × Atm) → List ExceptHandler → Bool
  | [], [] => true
  | q :: qs, h :: hs => hdChk N as sc kn q h && hdsChk as sc kn qs hs
  | _, _ => false
mutual
def St.chk (as : List Nat) (sc : Scope) : St → Stmt → Bool
  | .set i e, e0 => match e0 with
    | .Assign [.Name x _] v _ => isSt N true sc i x && decide (i ∈ as) && (!isComp v || isLC v) && Ex.chk N fs sc e v
    | _ => false
  | .setT t e, e0 => match e0 with
    | .Assign [.Tuple es _ _] v _ => Tg.chks N true sc t.subs es && t.isT && t.slots.all (fun i => decide (i ∈ as)) && !isTupE v && Ex.chk N fs sc e v
    | _ => false
  | .par i j a b, e0 => match e0 with
    | .Assign [.Tuple [.Name x px, .Name y py] _ _] (.Tuple [u, v] _ _) _ => decide (N[i]? = some x) && decide (N[j]? = some y) && decide (i ∈ as) && decide (j ∈ as) && !(i == j) && parOk sc x y px py u v && Ex.chk N fs sc a u && Ex.chk N fs sc b v
    | _ => false
  | .aug i p e, e0 => match e0 with
    | .AugAssign (.Name x _) op v _ => isSt N true sc i x && decide (i ∈ as) && augOk p op && Ex.chk N fs sc e v
    | _ => false
  | .app i e, e0 => match e0 with
    | .Expr (.Call (.Attribute (.Name x _) f ap) [v] [] cp) _ => decide (f = "append") && isNm N sc i x && ap.endLine == cp.line && Ex.chk N fs sc e v
    | _ => false
  | .sda i a j, e0 => match e0 with
    | .Expr (.Call (.Attribute (.Call (.Attribute (.Name x _) f ap) [b, .List [] _] [] cp) g ap2) [.Name y _] [] cp2) _ => decide (f = "setdefault") && decide (g = "append") && isNm N sc i x && isNm N sc j y && ap.endLine == cp.line && ap2.endLine == cp2.line && a.pu && Ex.chk N fs sc a b
    | _ => false
  | .appX i a e, e0 => match e0 with
    | .Expr (.Call (.Attribute (.Subscript (.Name x _) b _) f ap) [v] [] cp) _ => decide (f = "append") && isNm N sc i x && ap.endLine == cp.line && e.pu && Ex.chk N fs sc a b && Ex.chk N fs sc e v
    | _ => false
  | .ext i e, e0 => match e0 with
    | .Expr (.Call (.Attribute (.Name x _) f ap) [v] [] cp) _ => decide (f = "extend") && isNm N sc i x && ap.endLine == cp.line && Ex.chk N fs sc e v
    | _ => false
  | .setI i a e, e0 => match e0 with
    | .Assign [.Subscript (.Name x _) b _] v _ => isNm N sc i x && Ex.chk N fs sc a b && Ex.chk N fs sc e v
    | _ => false
  | .putD i a e, e0 => match e0 with
    | .Assign [.Subscript (.Name x _) b _] v _ => isNm N sc i x && Ex.chk N fs sc a b && Ex.chk N fs sc e v
    | _ => false
  | .rev i, e0 => match e0 with
    | .Expr (.Call (.Attribute (.Name x _) f ap) [] [] cp) _ => decide (f = "reverse") && isNm N sc i x && ap.endLine == cp.line
    | _ => false
  | .rem i e, e0 => match e0 with
    | .Expr (.Call (.Attribute (.Name x _) f ap) [v] [] cp) _ => decide (f = "remove") && isNm N sc i x && ap.endLine == cp.line && Ex.chk N fs sc e v
    | _ => false
  | .ex e, e0 => match e0 with
    | .Expr v _ => !isComp v && Ex.chk N fs sc e v
    | _ => false
  | .ret e, e0 => match e0 with
    | .Return (some v) _ => Ex.chk N fs sc e v
    | _ => false
  | .retN, e0 => match e0 with
    | .Return none _ => true
    | _ => false
  | .ite c a b, e0 => match e0 with
    | .If x y z _ => c.tst && Ex.chk N fs sc c x && Sts.chk as sc a y && Sts.chk as sc b z
    | _ => false
  | .iteI c a b, e0 => match e0 with
    | .If (.BinOp u o v p) y z _ => Ex.chk N fs sc c (.BinOp u o v p) && Sts.chk as sc a y && Sts.chk as sc b z
    | _ => false
  | .forS t it b, e0 => match e0 with
    | .For tg iter body [] _ => Tg.chk N true sc t tg && t.slots.all (fun i => decide (i ∈ as)) && okE iter && (!it.needT || isTupE tg) && Itx.chk N fs sc it iter && Sts.chk as sc b body
    | _ => false
  | .whl c b, e0 => match e0 with
    | .While x body [] _ => c.tst && Ex.chk N fs sc c x && Sts.chk as sc b body
    | _ => false
  | .brk, e0 => match e0 with
    | .Break _ => true
    | _ => false
  | .cont, e0 => match e0 with
    | .Continue _ => true
    | _ => false
  | .pas, e0 => match e0 with
    | .Pass _ => true
    | _ => false
  | .never, _ => true
  | .augI i p a e, e0 => match e0 with
    | .AugAssign (.Subscript (.Name x _) b _) op v _ => isNm N sc i x && augOk p op && Ex.chk N fs sc a b && Ex.chk N fs sc e v
    | _ => false
  | .rai c, e0 => match e0 with
    | .Raise (some (.Call (.Name x _) [] [] _)) none _ => decide (x = c) && isGl sc x && decide (fs.lookup x = some 100)
    | _ => false
  | .tri b as2 hs kn, e0 => match e0 with
    | .Try body hds [] [] _ => !hs.isEmpty && hdsChk N as sc kn hs hds && kn.all (fun c => decide (fs.lookup c = some 100)) && as2.all (fun i => decide (i ∈ as)) && Sts.chk as2 sc b body
    | _ => false
def Sts.chk (as : List Nat) (sc : Scope) : Sts → List Stmt → Bool
  | .nil, e0 => match e0 with
    | [] => true
    | _ => false
  | .cons s r, e0 => match e0 with
    | x :: xs => St.chk as sc s x && Sts.chk as sc r xs
    | _ => false
end
end
end Oa

/-! Part 23: what a slot owns is worked on. -/
namespace Oa
open PySem PySem.Spec PyProof.Rows L2
section
variable {K : PySem.W.Frag} {w : World} {mg : Str → Option Value} {W : WX}
/-- what a working on a value gives: the list at a now holds vs' -/
structure Wrk (K : PySem.W.Frag) (w : World) (A1 A2 A3 T : List Addr) (F H : Hp) (u : V) (k' : M) (a : Addr) (vs' : List V) (F' : Hp) (A2' : List Addr) : Prop where
  mem : a ∈ A2
  ff : Same F F'
  gs : GS F' (upd H a (.lst vs')) (A1 ++ A2' ++ A3)
  st : Stp (A1 ++ A2 ++ A3 ++ T) F H (A1 ++ A2' ++ A3) F' (upd H a (.lst vs'))
  kp : ∀ b ∈ A1 ++ A3, upd H a (.lst vs') b = H b
  rm : RM K w F' (upd H a (.lst vs')) u k' A2'
theorem perm_mid {A1 A2 A3 T : List Addr} : (A1 ++ (A2 ++ T) ++ A3).Perm (A1 ++ A2 ++ A3 ++ T) := by
  rw [List.append_assoc, List.append_assoc, List.append_assoc, List.append_assoc]
  refine List.Perm.append_left A1 (List.Perm.append_left A2 ?_)
  exact List.perm_append_comm
theorem wrk_app {A1 A2 A3 T : List Addr} {F H : Hp} {u y : V} {k k' : M} {r : Rv} (h : RM K w F H u k A2) (e : addTo k r = some k') (g : GS F H (A1 ++ A2 ++ A3 ++ T)) (hy : RR K w F H y r T) :
    ∃ a vs F' A2', u = .ref a ∧ H a = some (.lst vs) ∧ vs.length < sizeLine ∧ Wrk K w A1 A2 A3 T F H u k' a (vs ++ [y]) F' A2' := by
  cases k with
  | v xs =>
    simp only [addTo] at e
    split at e
    · rename_i hz
      split at e
      · rename_i d ek
        cases e
        obtain ⟨F5, T5, s5, g5, f5, r5, _⟩ := keep_of (A := A1 ++ A2 ++ A3) (S := []) (by simpa using g) hy ek
        simp only [RM] at h r5
        obtain ⟨a, vs, rfl, h1, h2, rfl⟩ := h
        obtain ⟨r5, rfl⟩ := r5
        simp only [List.append_nil, List.nil_append] at g5 s5
        obtain ⟨w1, w2, w3⟩ := own_write (o := .lst (vs ++ [y])) g5 (List.mem_singleton.mpr rfl) (lst_ownd _)
        refine ⟨a, vs, F5, [a], rfl, h1, by rw [h2.length]; exact hz, List.mem_singleton.mpr rfl, f5, w1, s5.trans w2, w3, ?_⟩
        simp only [RM]
        refine ⟨a, vs ++ [y], rfl, upd_same, (h2.mono f5).app ?_, rfl⟩
        simp only [RepDs]
        exact ⟨r5, trivial⟩
      · cases e
    · cases e
  | l ms =>
    simp only [addTo] at e
    split at e
    · rename_i hz
      simp only [Option.map_eq_some_iff] at e
      obtain ⟨q, ek, rfl⟩ := e
      obtain ⟨F5, T5, s5, g5, f5, r5, _⟩ := keep_of (A := A1 ++ A2 ++ A3) (S := []) (by simpa using g) hy ek
      simp only [List.append_nil, List.nil_append] at g5 s5
      simp only [RM] at h
      obtain ⟨a, vs, B, rfl, h1, h2, rfl⟩ := h
      have g6 : GS F5 H (A1 ++ (a :: B ++ T5) ++ A3) := g5.perm perm_mid
      obtain ⟨w1, w2, w3⟩ := own_write (o := .lst (vs ++ [y])) (a := a) g6 (by simp) (lst_ownd _)
      have nd : (a :: (B ++ T5)).Nodup := by
        have := g6.left.nd
        exact (List.nodup_append.mp this).2.1
      have nb : ∀ b ∈ B ++ T5, upd H a (.lst (vs ++ [y])) b = H b := fun b hb => upd_ne fun z => (List.nodup_cons.mp nd).1 (z ▸ hb)
      refine ⟨a, vs, F5, a :: B ++ T5, rfl, h1, by rw [RMs.len h2]; exact hz, List.mem_cons_self, f5, w1, (s5.mem (fun _ h => h) fun b hb => .inl (perm_mid.mem_iff.mp hb)).trans w2, w3, ?_⟩
      simp only [List.cons_append, RM]
      refine ⟨a, vs ++ [y], B ++ T5, rfl, upd_same, ?_, rfl⟩
      refine (h2.keep f5 fun b hb => nb b (List.mem_append_left _ hb)).app (B := T5) ?_
      simp only [RMs]
      exact ⟨T5, [], r5.keep (Same.refl F5) fun b hb => nb b (List.mem_append_right _ hb), rfl, by simp⟩
    · cases e
  | _ => simp [addTo] at e
/-- an item of a list of lists -/
theorem wrk_in {A1 A2 A3 T : List Addr} {F H : Hp} {u : V} {ms : List M} {i : Nat} {m0 : M} (h : RM K w F H u (.l ms) A2) (e : ms[i]? = some m0) :
    ∃ b ws x B1 B2 B3, u = .ref b ∧ H b = some (.lst ws) ∧ ws.length = ms.length ∧ ws[i]? = some x ∧ A2 = b :: (B1 ++ B2 ++ B3) ∧ RM K w F H x m0 B2 ∧
      ∀ {k' : M} {a : Addr} {vs' : List V} {F' : Hp} {B2' : List Addr}, GS F H (A1 ++ A2 ++ A3 ++ T) → Wrk K w (A1 ++ b :: B1) B2 (B3 ++ A3) T F H x k' a vs' F' B2' → Wrk K w A1 A2 A3 T F H u (.l (ms.set i k')) a vs' F' (b :: (B1 ++ B2' ++ B3)) := by
  simp only [RM] at h
  obtain ⟨b, ws, B, rfl, h1, h2, rfl⟩ := h
  obtain ⟨x, B1, B2, B3, g1, rfl, g3, g4⟩ := RMs.get h2 e
  refine ⟨b, ws, x, B1, B2, B3, rfl, h1, RMs.len h2, g1, rfl, g3, fun {k' a vs' F' B2'} g W => ?_⟩
  have e1 : A1 ++ b :: B1 ++ B2' ++ (B3 ++ A3) = A1 ++ b :: (B1 ++ B2' ++ B3) ++ A3 := by simp
  have e2 : A1 ++ b :: B1 ++ B2 ++ (B3 ++ A3) ++ T = A1 ++ b :: (B1 ++ B2 ++ B3) ++ A3 ++ T := by simp
  refine ⟨?_, W.ff, e1 ▸ W.gs, ?_, fun c hc => W.kp c ?_, ?_⟩
  · simp [W.mem]
  · have := W.st
    rw [e1, e2] at this
    exact this
  · simp only [List.mem_append, List.mem_cons] at hc ⊢
    rcases hc with hc | hc
    · exact .inl (.inl hc)
    · exact .inr (.inr hc)
  · simp only [RM]
    refine ⟨b, ws, B1 ++ B2' ++ B3, rfl, ?_, g4 _ _ _ _ W.ff (fun c hc => W.kp c ?_) W.rm, rfl⟩
    · rw [W.kp b (by simp)]
      exact h1
    · simp only [List.mem_append, List.mem_cons] at hc ⊢
      rcases hc with hc | hc
      · exact .inl (.inr (.inr hc))
      · exact .inr (.inl hc)
/-- a list of pure items is rewritten, what was handed is not kept -/
theorem wrk_v {A1 A2 A3 T : List Addr} {F H : Hp} {u : V} {xs ys : List D} {vs' : List V} (h : RM K w F H u (.v xs) A2) (g : GS F H (A1 ++ A2 ++ A3 ++ T)) (r : RepDs K w F vs' ys) :
    ∃ a vs, u = .ref a ∧ H a = some (.lst vs) ∧ RepDs K w F vs xs ∧ Wrk K w A1 A2 A3 T F H u (.v ys) a vs' F A2 := by
  simp only [RM] at h
  obtain ⟨a, vs, rfl, h1, h2, rfl⟩ := h
  obtain ⟨w1, w2, w3⟩ := own_write (o := .lst vs') g.left (List.mem_singleton.mpr rfl) (lst_ownd _)
  refine ⟨a, vs, rfl, h1, h2, List.mem_singleton.mpr rfl, Same.refl F, w1, w2.mem (fun b hb => List.mem_append_left _ hb) fun b hb => .inl hb, w3, ?_⟩
  simp only [RM]
  exact ⟨a, vs', rfl, upd_same, r, rfl⟩
/-- x[j] = y over pure items -/
theorem wrk_set {A1 A2 A3 T : List Addr} {F H : Hp} {u y : V} {k k' : M} {j : Int} {r : Rv} (h : RM K w F H u k A2) (e : setTo k j r = some k') (g : GS F H (A1 ++ A2 ++ A3 ++ T)) (hy : RR K w F H y r T) :
    ∃ a vs i F' A2', u = .ref a ∧ H a = some (.lst vs) ∧ L2.ixN vs.length j = some i ∧ Wrk K w A1 A2 A3 T F H u k' a (vs.set i y) F' A2' := by
  cases k with
  | v xs =>
    simp only [setTo] at e
    split at e
    · rename_i i ei
      split at e
      · rename_i d ek
        cases e
        obtain ⟨F5, T5, s5, g5, f5, r5, _⟩ := keep_of (A := A1 ++ A2 ++ A3) (S := []) (by simpa using g) hy ek
        simp only [RM] at h r5
        obtain ⟨a, vs, rfl, h1, h2, rfl⟩ := h
        obtain ⟨r5, rfl⟩ := r5
        simp only [List.append_nil, List.nil_append] at g5 s5
        obtain ⟨w1, w2, w3⟩ := own_write (o := .lst (vs.set i y)) g5 (List.mem_singleton.mpr rfl) (lst_ownd _)
        refine ⟨a, vs, i, F5, [a], rfl, h1, by rw [h2.length]; exact ei, List.mem_singleton.mpr rfl, f5, w1, s5.trans w2, w3, ?_⟩
        simp only [RM]
        exact ⟨a, vs.set i y, rfl, upd_same, RepDs.set r5 i (h2.mono f5), rfl⟩
      · cases e
    · cases e
  | _ => simp [setTo] at e
/-- in a slot -/
theorem wrk_slot {F H : Hp} {σ : L2.St} {m : Sl} {A T : List Addr} {i : Nat} {k : M} (hR : RS K w F H σ m A) (e : m[i]? = some (some k)) :
    ∃ u A1 A2 A3, σ[i]? = some (some u) ∧ A = A1 ++ A2 ++ A3 ∧ RM K w F H u k A2 ∧ ∀ {k' : M} {a : Addr} {vs' : List V} {F' : Hp} {A2' : List Addr}, Wrk K w A1 A2 A3 T F H u k' a vs' F' A2' →
      RS K w F' (upd H a (.lst vs')) σ (m.set i (some k')) (A1 ++ A2' ++ A3) := by
  obtain ⟨u, A1, A2, A3, g1, g2, g3, g4, _⟩ := hR.at e
  refine ⟨u, A1, A2, A3, g1, g2, g3, fun {k' a vs' F' A2'} W => ?_⟩
  have := g4 F' (upd H a (.lst vs')) u k' A2' W.ff W.kp W.rm
  rwa [set_same g1] at this
end
end Oa

/-! Part 24: methods that write; plain statements. -/
namespace Oa
open PySem PySem.Spec PyProof.Rows L2
section
variable {K : PySem.W.Frag} {w : World} {mg : Str → Option Value} {W : WX}
theorem ev_none {F H F' H' : Hp} {σ : L2.St} {m : Sl} {A A' : List Addr} (hR : RS K w F' H' σ m A') (g : GS F' H' A') (s : Stp A F H A' F' H') : EvP K w false F H A σ (.p .none) m .non H' :=
  ⟨F', A', [], hR, by simpa using g, by simpa using s, (show RM K w F' H' .non (.d .none) [] by simp only [RM, RepD]; exact ⟨trivial, trivial⟩), fun e => by cases e⟩
theorem tE_up {pe : Bool} {i : Nat} {g : M → Rv → Option M} {fe : EvF} {σ : L2.St} {H : Hp} {Q : VK} (h : tE K w mg W false (upG i g fe) σ H Q) :
    tE K w mg W pe fe σ H fun y H1 => ∃ F m1 A T r k k', RS K w F H1 σ m1 A ∧ GS F H1 (A ++ T) ∧ RR K w F H1 y r T ∧ m1[i]? = some (some k) ∧ g k r = some k' ∧ (pe = true → Same H H1) ∧
      ∀ F' A' H', RS K w F' H' σ (m1.set i (some k')) A' → GS F' H' A' → Stp (A ++ T) F H1 A' F' H' → Q .non H' := by
  obtain ⟨m, F, A, hR, hG, h⟩ := h
  refine ⟨m, F, A, hR, hG, ?_⟩
  unfold upG at h
  cases e1 : fe m with
  | bad => rw [e1] at h; exact h.elim
  | er c x => rw [e1] at h; exact h
  | ok p =>
    obtain ⟨r, m1⟩ := p
    rw [e1] at h
    simp only [Res.bind_ok] at h
    show ∀ x H', EvP K w pe F H A σ r m1 x H' → _
    rintro y H1 ⟨F1, A1, T1, hR1, g1, s1, r1, p1⟩
    cases em : m1[i]? with
    | none => rw [em] at h; exact h.elim
    | some o => cases o with
      | none => rw [em] at h; exact h.elim
      | some k =>
        rw [em] at h
        simp only at h
        cases eg : g k r with
        | none => rw [eg] at h; exact h.elim
        | some k' =>
          rw [eg] at h
          exact ⟨F1, m1, A1, T1, r, k, k', hR1, g1, r1, em, eg, p1, fun F' A' H' a b c => h .non H' (ev_none a b (s1.trans c))⟩
theorem isLst_at {u : V} {kk : M} {F H : Hp} {A : List Addr} (h : M.isLst kk = true) (r : RM K w F H u kk A) : ∃ a vs, u = .ref a ∧ H a = some (.lst vs) := by
  cases kk with
  | v xs =>
    simp only [RM] at r
    obtain ⟨a, vs, h1, h2, _⟩ := r
    exact ⟨a, vs, h1, h2⟩
  | l xs =>
    simp only [RM] at r
    obtain ⟨a, vs, B, h1, h2, _⟩ := r
    exact ⟨a, vs, h1, h2⟩
  | _ => cases h
end
section
variable {X : Cx} {k : Nat} {fs : List (Str × Nat)} {cf : CfT} {cs : Str → Option D} {W : WX}
variable {sc : Scope} {i : Nat} {x f : Str} {e : Expr} {p ap cp : Pos} {pe : Bool} {fe : EvF}
theorem se_app (hs : X.env.scope = sc) (hf : f = "append") (h : isNm X.N sc i x = true) (hl : (ap.endLine == cp.line) = true) (ok : okE e = true) (he : SE X W pe e fe) : SE X W false (.Call (.Attribute (.Name x p) f ap) [e] [] cp) (upF i addTo fe) := by
  subst hs hf
  obtain ⟨h1, h2, h3, h4⟩ := vis_of h
  refine pe_imp (pe_bm (r := rAppend) F.plainAttrs_list F.slot_list_append F.type_list_append mt_append (pe_var h1 h2 h3 h4) (pa_cons he pa_nil (star_ok ok)) rfl (by rw [star_ok ok]; rfl) hl (star_ok ok) rfl) fun σ H Q q => ?_
  obtain ⟨u, g1, ⟨kk, F, A, ek, sm, rk⟩, q⟩ := tE_atF q
  obtain ⟨a, vs, rfl, g2⟩ := isLst_at ek rk
  refine ⟨_, g1, .inl ⟨rfl, vs, SqL.of g2⟩, tE_mono (tE_up q) fun y H1 q => ?_⟩
  obtain ⟨F1, m1, A1, T, r, kk, k', hR, hG, hr, em, eg, _, q⟩ := q
  obtain ⟨u', B1, B2, B3, z1, rfl, z2, z3⟩ := wrk_slot (T := T) hR em
  rw [g1] at z1
  cases z1
  obtain ⟨a', vs', F', A2', e2, l1, l2, wk⟩ := wrk_app z2 eg hG hr
  cases e2
  exact ⟨a, vs', y, rfl, rfl, l1, l2, q _ _ _ (z3 wk) wk.gs wk.st⟩
theorem items_lst {K : PySem.W.Frag} {w : World} {F H : Hp} {y : V} {r : Rv} {T : List Addr} {ds : List D} (s : Same F H) (h : RR K w F H y r T) (e : r.m.items = some (false, ds)) : ∃ b zs, y = .ref b ∧ H b = some (.lst zs) ∧ RepDs K w F zs ds := h.lst s e
theorem se_ext (hs : X.env.scope = sc) (hf : f = "extend") (h : isNm X.N sc i x = true) (hl : (ap.endLine == cp.line) = true) (ok : okE e = true) (he : SE X W pe e fe) : SE X W false (.Call (.Attribute (.Name x p) f ap) [e] [] cp) (upF i extTo fe) := by
  subst hs hf
  obtain ⟨h1, h2, h3, h4⟩ := vis_of h
  refine pe_imp (pe_bm (r := rExtend) F.plainAttrs_list F.slot_list_extend F.type_list_extend mt_extend (pe_var h1 h2 h3 h4) (pa_cons he pa_nil (star_ok ok)) rfl (by rw [star_ok ok]; rfl) hl (star_ok ok) rfl) fun σ H Q q => ?_
  obtain ⟨u, g1, ⟨kk, F, A, ek, sm, rk⟩, q⟩ := tE_atF q
  obtain ⟨a, vs, rfl, g2⟩ := isLst_at ek rk
  refine ⟨_, g1, .inl ⟨rfl, vs, SqL.of g2⟩, tE_mono (tE_up q) fun y H1 q => ?_⟩
  obtain ⟨F1, m1, A1, T, r, kk, k', hR, hG, hr, em, eg, _, q⟩ := q
  obtain ⟨u', B1, B2, B3, z1, rfl, z2, z3⟩ := wrk_slot (T := T) hR em
  rw [g1] at z1
  cases z1
  unfold extTo at eg
  split at eg
  · rename_i xs ys ei
    split at eg
    · rename_i hz
      cases eg
      obtain ⟨b, zs, rfl, l1, l2⟩ := hr.lst hG.sub ei
      simp only [RM] at z2
      obtain ⟨a', vs', e2, l3, l4, rfl⟩ := z2
      cases e2
      obtain ⟨a', vs2, e2, l5, l6, wk⟩ := wrk_v (u := .ref a) (ys := xs ++ ys) (vs' := vs' ++ zs) (show RM X.K X.w F1 H1 (.ref a) (.v xs) [a] by simp only [RM]; exact ⟨a, vs', rfl, l3, l4, rfl⟩) hG (l4.app l2)
      cases e2
      exact ⟨a, b, vs', zs, rfl, rfl, l3, l1, by rw [l4.length, l2.length, ← big_eq]; exact hz, q _ _ _ (z3 wk) wk.gs wk.st⟩
    · cases eg
  · cases eg
theorem isLV_of {K : PySem.W.Frag} {w : World} {u : V} {kk : M} {j : Int} {F H : Hp} {A : List Addr} (h : isLV j kk = true) (r : RM K w F H u kk A) : ∃ b ws j' a vs, u = .ref b ∧ H b = some (.lst ws) ∧ L2.ixN ws.length j = some j' ∧ ws[j']? = some (.ref a) ∧ H a = some (.lst vs) := by
  cases kk with
  | l ms =>
    simp only [isLV] at h
    split at h
    · rename_i j' ej
      split at h
      · rename_i xs em
        obtain ⟨b, ws, z, B1, B2, B3, rfl, h1, hl, h2, _, h3, _⟩ := wrk_in (A1 := []) (A3 := []) (T := []) r em
        simp only [RM] at h3
        obtain ⟨a, vs, rfl, h4, _⟩ := h3
        exact ⟨b, ws, j', a, vs, rfl, h1, by rw [hl]; exact ej, h2, h4⟩
      · cases h
    · cases h
  | _ => cases h
theorem se_appX {b : Expr} {sp : Pos} {pb : Bool} {fb : EvF} (hs : X.env.scope = sc) (hf : f = "append") (h : isNm X.N sc i x = true) (hl : (ap.endLine == cp.line) = true) (ok : okE e = true) (okb : okE b = true) (hpe : pe = true) (hb : SE X W pb b fb) (he : SE X W pe e fe) :
    SE X W false (.Call (.Attribute (.Subscript (.Name x p) b sp) f ap) [e] [] cp) (upIF i addAt fb fe) := by
  subst hs hf hpe
  obtain ⟨h1, h2, h3, h4⟩ := vis_of h
  refine pe_imp (pe_bm (r := rAppend) F.plainAttrs_list F.slot_list_append F.type_list_append mt_append (pe_ix ix_list (pe_var h1 h2 h3 h4) hb (plain_ix okb)) (pa_cons he pa_nil (star_ok ok)) rfl (by rw [star_ok ok]; rfl) hl (star_ok ok) rfl) fun σ H Q q => ?_
  obtain ⟨u, g1, _, q⟩ := tE_atF q
  refine ⟨u, g1, ?_⟩
  have q' : tE X.K X.w X.mg W (pb && false) (intB fb fun j => atF (isLV j) i (upG i (fun k r => addAt k j r) fe)) σ H Q := by rw [Bool.and_false]; exact q
  refine tE_mono (tE_intB q') fun z H1 ⟨j, ez, q⟩ => ?_
  subst ez
  obtain ⟨u', g1', ⟨kk, F, A, ek, sm, rk⟩, q⟩ := tE_atF q
  rw [g1] at g1'
  cases g1'
  obtain ⟨b', ws, j', a, vs, rfl, l1, l2, l3, l4⟩ := isLV_of ek rk
  refine ⟨b', ws, j, .ref a, rfl, rfl, SqL.of l1, ?_, .inl ⟨rfl, vs, SqL.of l4⟩, tE_mono (tE_up (pe := true) q) fun y H2 q => ?_⟩
  · unfold L2.atI
    rw [l2]
    exact l3
  obtain ⟨F1, m1, A1, T, r, kk, k', hR, hG, hr, em, eg, pu, q⟩ := q
  obtain ⟨u', B1, B2, B3, z1, rfl, z2, z3⟩ := wrk_slot (T := T) hR em
  rw [g1] at z1
  cases z1
  have l1' := pu rfl b' _ l1
  unfold addAt at eg
  split at eg
  · rename_i ms
    split at eg
    · rename_i j2 ej
      split at eg
      · rename_i xs ex
        simp only [Option.map_eq_some_iff] at eg
        obtain ⟨q2, eq2, rfl⟩ := eg
        obtain ⟨b2, ws2, x2, C1, C2, C3, e2, m1', m2', m3', rfl, m4', m5'⟩ := wrk_in (A1 := B1) (A3 := B3) (T := T) z2 ex
        cases e2
        rw [l1'] at m1'
        cases m1'
        rw [m2', ej] at l2
        cases l2
        rw [l3] at m3'
        cases m3'
        have hG' : GS F1 H2 (B1 ++ b' :: C1 ++ C2 ++ (C3 ++ B3) ++ T) := by simpa using hG
        obtain ⟨a2, vs2, F', A2', e3, n1, n2, wk⟩ := wrk_app m4' eq2 hG' hr
        cases e3
        have wk2 := m5' hG wk
        exact ⟨a, vs2, y, rfl, rfl, n1, n2, q _ _ _ (z3 wk2) wk2.gs wk2.st⟩
      · cases eg
    · cases eg
  · cases eg
end
end Oa

/-! Part 25: statements: readings. -/
namespace Oa
open PySem PySem.Spec PyProof.Rows L2
section
variable (K : PySem.W.Frag) (w : World) (mg : Str → Option Value) (W : WX)
def SPo (pu : Bool) (as : List Nat) (F H : Hp) (A : List Addr) (σ : L2.St) (m' : Sl) (σ' : L2.St) (H' : Hp) : Prop :=
  ∃ F' A', RS K w F' H' σ' m' A' ∧ GS F' H' A' ∧ Stp A F H A' F' H' ∧ Agree as σ σ' ∧ (pu = true → Same H H')
def RPo (as : List Nat) (F H : Hp) (A : List Addr) (σ : L2.St) (k : M) (m' : Sl) (v : V) (H' : Hp) : Prop :=
  ∃ F' A' T σ', RS K w F' H' σ' m' A' ∧ GS F' H' (A' ++ T) ∧ Stp A F H (A' ++ T) F' H' ∧ RM K w F' H' v k T ∧ Agree as σ σ'
/-- what a result leads to -/
def ResP (pu : Bool) (as : List Nat) (F H : Hp) (A : List Addr) (σ : L2.St) (D : Ends) : Res Out → Prop
  | .ok (.nx m') => ∀ σ' H', SPo K w pu as F H A σ m' σ' H' → D.nx σ' H'
  | .ok (.bk m') => ∀ σ' H', SPo K w pu as F H A σ m' σ' H' → D.bk σ' H'
  | .ok (.ct m') => ∀ σ' H', SPo K w pu as F H A σ m' σ' H' → D.ct σ' H'
  | .ok (.rt k m') => ∀ v H', RPo K w as F H A σ k m' v H' → D.rt v H'
  | .er c x => ∀ cls d σ' H', Agree as σ σ' → ErP mg A H c x cls d H' → W cls d σ' H'
  | .bad => False
def tSt (pu : Bool) (as : List Nat) (f : StF) : TS := fun D σ H => ∃ m F A, RS K w F H σ m A ∧ GS F H A ∧ ResP K w mg W pu as F H A σ D (f m)
end
section
variable {K : PySem.W.Frag} {w : World} {mg : Str → Option Value} {W : WX} {as : List Nat}
theorem ResP.step {p1 pb : Bool} {F H F1 H1 : Hp} {A A1 : List Addr} {σ σ1 : L2.St} {D : Ends} (s : Stp A F H A1 F1 H1) (a : Agree as σ σ1) (e : p1 = true → Same H H1) : ∀ {r : Res Out}, ResP K w mg W (p1 && pb) as F H A σ D r → ResP K w mg W pb as F1 H1 A1 σ1 D r
  | .ok (.nx m'), h => fun σ' H' ⟨F', A', h1, h2, h3, h4, h5⟩ => h σ' H' ⟨F', A', h1, h2, s.trans h3, a.trans h4, fun z => by rw [Bool.and_eq_true] at z; exact (e z.1).trans (h5 z.2)⟩
  | .ok (.bk m'), h => fun σ' H' ⟨F', A', h1, h2, h3, h4, h5⟩ => h σ' H' ⟨F', A', h1, h2, s.trans h3, a.trans h4, fun z => by rw [Bool.and_eq_true] at z; exact (e z.1).trans (h5 z.2)⟩
  | .ok (.ct m'), h => fun σ' H' ⟨F', A', h1, h2, h3, h4, h5⟩ => h σ' H' ⟨F', A', h1, h2, s.trans h3, a.trans h4, fun z => by rw [Bool.and_eq_true] at z; exact (e z.1).trans (h5 z.2)⟩
  | .ok (.rt k m'), h => fun v H' ⟨F', A', T, σ', h1, h2, h3, h4, h5⟩ => h v H' ⟨F', A', T, σ', h1, h2, s.trans h3, h4, a.trans h5⟩
  | .er c x, h => fun cls d σ' H' ag q => h cls d σ' H' (a.trans ag) (q.back s)
  | .bad, h => h
theorem ResP.weak {p q : Bool} {F H : Hp} {A : List Addr} {σ : L2.St} {D : Ends} (i : p = true → q = true) : ∀ {r : Res Out}, ResP K w mg W p as F H A σ D r → ResP K w mg W q as F H A σ D r
  | .ok (.nx m'), h => fun σ' H' ⟨F', A', h1, h2, h3, h4, h5⟩ => h σ' H' ⟨F', A', h1, h2, h3, h4, fun z => h5 (i z)⟩
  | .ok (.bk m'), h => fun σ' H' ⟨F', A', h1, h2, h3, h4, h5⟩ => h σ' H' ⟨F', A', h1, h2, h3, h4, fun z => h5 (i z)⟩
  | .ok (.ct m'), h => fun σ' H' ⟨F', A', h1, h2, h3, h4, h5⟩ => h σ' H' ⟨F', A', h1, h2, h3, h4, fun z => h5 (i z)⟩
  | .ok (.rt k m'), h => h
  | .er c x, h => h
  | .bad, h => h
theorem tSt_weak {p q : Bool} {f : StF} {D : Ends} {σ : L2.St} {H : Hp} (i : p = true → q = true) (h : tSt K w mg W p as f D σ H) : tSt K w mg W q as f D σ H := by
  obtain ⟨m, F, A, hR, hG, h⟩ := h
  exact ⟨m, F, A, hR, hG, h.weak i⟩
/-- an expression, and what is made of it -/
theorem tE_st {pe ps : Bool} {fe : EvF} {g : Rv → StF} {D : Ends} {σ : L2.St} {H : Hp} (h : tSt K w mg W (pe && ps) as (fun m => (fe m).bind fun (r, m1) => g r m1) D σ H) :
    tE K w mg W pe fe σ H fun x H1 => ∃ r m1 F1 A1 T, RS K w F1 H1 σ m1 A1 ∧ GS F1 H1 (A1 ++ T) ∧ RR K w F1 H1 x r T ∧ ResP K w mg W ps as F1 H1 (A1 ++ T) σ D (g r m1) := by
  obtain ⟨m, F, A, hR, hG, h⟩ := h
  refine ⟨m, F, A, hR, hG, ?_⟩
  cases e1 : fe m with
  | bad => simp only [e1] at h; exact h.elim
  | er c x =>
    simp only [e1] at h
    exact fun cls d H' q => h cls d σ H' (Agree.refl _ _) q
  | ok p =>
    obtain ⟨r, m1⟩ := p
    simp only [e1, Res.bind_ok] at h
    show ∀ x H', EvP K w pe F H A σ r m1 x H' → _
    rintro x H1 ⟨F1, A1, T1, hR1, g1, s1, r1, p1⟩
    exact ⟨r, m1, F1, A1, T1, hR1, g1, r1, h.step s1 (Agree.refl _ _) p1⟩
theorem perm4 {A1 B A3 T : List Addr} : (A1 ++ T ++ A3 ++ B).Perm (A1 ++ B ++ A3 ++ T) := by
  have p1 : (A1 ++ T ++ A3 ++ B).Perm (A1 ++ (T ++ (B ++ A3))) := by
    rw [List.append_assoc, List.append_assoc]
    exact ((List.perm_append_comm).append_left T).append_left A1
  have p2 : (A1 ++ (T ++ (B ++ A3))).Perm (A1 ++ B ++ A3 ++ T) := by
    rw [List.append_assoc A1 B A3, List.append_assoc]
    exact (List.perm_append_comm).append_left A1
  exact p1.trans p2
theorem rs_store {F H : Hp} {σ : L2.St} {m : Sl} {A T : List Addr} {i : Nat} {x : V} {k : M} (hR : RS K w F H σ m A) (g : GS F H (A ++ T)) (hi : i < m.length) (hk : RM K w F H x k T) :
    ∃ A', RS K w F H (σ.set i (some x)) (m.set i (some k)) A' ∧ GS F H A' ∧ ∀ a ∈ A', a ∈ A ++ T := by
  obtain ⟨A1, A3, ⟨B, rfl⟩, h⟩ := hR.put hi
  have r := h F H x k T (Same.refl F) (fun _ _ => rfl) hk
  have p : (A1 ++ T ++ A3 ++ B).Perm (A1 ++ B ++ A3 ++ T) := perm4
  exact ⟨A1 ++ T ++ A3, r, (g.perm p).left, fun a ha => p.mem_iff.mp (List.mem_append_left _ ha)⟩
theorem own_rm {F H : Hp} {x : V} {r : Rv} {k : M} {T : List Addr} (h : RR K w F H x r T) (e : ownM r = some k) : RM K w F H x k T := by
  cases r with
  | o k0 => cases e; exact h
  | b k0 =>
    cases k0 with
    | d y =>
      cases e
      obtain ⟨rfl, B, hB⟩ := h
      simp only [RM] at hB ⊢
      exact ⟨hB.1, trivial⟩
    | _ => cases e
theorem agree_set {i : Nat} {σ : L2.St} {x : V} (h : i ∈ as) : Agree as σ (σ.set i (some x)) := ⟨List.length_set, fun j hj => List.getElem?_set_ne fun e => hj (by rw [← e]; exact h)⟩
theorem set_read {pe : Bool} {i : Nat} {fe : EvF} {D : Ends} {σ : L2.St} {H : Hp} (hi : i ∈ as) (h : tSt K w mg W pe as (setF i fe) D σ H) : tE K w mg W pe fe σ H fun x H1 => D.nx (σ.set i (some x)) H1 := by
  have h' : tSt K w mg W (pe && true) as (fun m => (fe m).bind fun (r, m1) => match ownM r with
    | some k => outN (putS i k m1)
    | none => .bad) D σ H := by rw [Bool.and_true]; exact h
  refine tE_mono (tE_st (g := fun r m1 => match ownM r with
    | some k => outN (putS i k m1)
    | none => .bad) h') fun x H1 ⟨r, m1, F1, A1, T, hR, hG, hr, q⟩ => ?_
  cases ek : ownM r with
  | none => simp only [ek] at q; exact q.elim
  | some k =>
    simp only [ek] at q
    unfold putS at q
    split at q
    · rename_i hl
      obtain ⟨A', k1, k2, k3⟩ := rs_store hR hG hl (own_rm hr ek)
      exact q _ H1 ⟨F1, A', k1, k2, stp_drop k3, agree_set hi, fun _ => Same.refl _⟩
    · exact q.elim
theorem pure_frz {F H : Hp} {x : V} {r : Rv} {d : D} {T : List Addr} (s : Same F H) (h : RR K w F H x r T) (e : r.pure? = some d) : RepD K w (frz F H T) x d := by
  cases r with
  | o k =>
    simp only [Rv.pure?] at e
    split at e
    · rename_i hf
      cases e
      exact RM.frz h hf s
    · cases e
  | b k =>
    cases k with
    | d y =>
      simp only [Rv.pure?, Option.some.injEq] at e
      subst e
      exact (RR.pure (r := .b (.d y)) h rfl).mono frz_sub
    | _ => simp [Rv.pure?] at e
theorem gs_frzT {F H : Hp} {A T : List Addr} (g : GS F H (A ++ T)) : GS (frz F H T) H A := by
  have := gs_frz (A1 := A) (A2 := T) (A3 := []) (by simpa using g)
  simpa using this
theorem setT_read {pe : Bool} {t : Tg} {fe : EvF} {D : Ends} {σ : L2.St} {H : Hp} (hi : ∀ i ∈ t.slots, i ∈ as) (h : tSt K w mg W pe as (setTF t fe) D σ H) : tE K w mg W pe fe σ H fun x H1 => gT K w t x σ H1 D.nx := by
  have h' : tSt K w mg W (pe && true) as (fun m => (fe m).bind fun (r, m1) => match r.pure? with
    | some d => outN (t.put d m1)
    | none => .bad) D σ H := by rw [Bool.and_true]; exact h
  refine tE_mono (tE_st (g := fun r m1 => match r.pure? with
    | some d => outN (t.put d m1)
    | none => .bad) h') fun x H1 ⟨r, m1, F1, A1, T, hR, hG, hr, q⟩ => ?_
  cases ek : r.pure? with
  | none => simp only [ek] at q; exact q.elim
  | some d =>
    simp only [ek] at q
    cases ep : t.put d m1 with
    | none => rw [ep] at q; exact q.elim
    | some m2 =>
      rw [ep] at q
      refine ⟨m1, frz F1 H1 T, A1, d, m2, hR.keep frz_sub (fun _ _ => rfl), frz_below hG.sub, pure_frz hG.sub hr ek, ep, fun σ' A' k1 k2 k3 => q σ' H1 ⟨frz F1 H1 T, A', k1, (gs_frzT hG).sub' k2, ?_, k3.mono hi, fun _ => Same.refl _⟩⟩
      exact stp_frz (fun a ha => List.mem_append_left _ (k2.subset ha)) fun a ha => List.mem_append_right _ ha
theorem drop_read {pe : Bool} {fe : EvF} {D : Ends} {σ : L2.St} {H : Hp} (h : tSt K w mg W pe as (dropF fe) D σ H) : tE K w mg W pe fe σ H fun _ H1 => D.nx σ H1 := by
  have h' : tSt K w mg W (pe && true) as (fun m => (fe m).bind fun (_, m1) => .ok (.nx m1)) D σ H := by rw [Bool.and_true]; exact h
  refine tE_mono (tE_st (g := fun _ m1 => .ok (.nx m1)) h') fun x H1 ⟨r, m1, F1, A1, T, hR, hG, hr, q⟩ => ?_
  exact q σ H1 ⟨F1, A1, hR, hG.left, stp_drop fun a ha => List.mem_append_left _ ha, Agree.refl _ _, fun _ => Same.refl _⟩
theorem ret_read {pe : Bool} {fe : EvF} {D : Ends} {σ : L2.St} {H : Hp} (h : tSt K w mg W pe as (retF fe) D σ H) : tE K w mg W pe fe σ H D.rt := by
  have h' : tSt K w mg W (pe && true) as (fun m => (fe m).bind fun (r, m1) => match ownM r with
    | some k => .ok (.rt k m1)
    | none => .bad) D σ H := by rw [Bool.and_true]; exact h
  refine tE_mono (tE_st (g := fun r m1 => match ownM r with
    | some k => .ok (.rt k m1)
    | none => .bad) h') fun x H1 ⟨r, m1, F1, A1, T, hR, hG, hr, q⟩ => ?_
  cases ek : ownM r with
  | none => simp only [ek] at q; exact q.elim
  | some k =>
    simp only [ek] at q
    exact q x H1 ⟨F1, A1, T, σ, hR, hG, Stp.refl, own_rm hr ek, Agree.refl _ _⟩
theorem seq_read {pa pb : Bool} {a b : StF} {D : Ends} {σ : L2.St} {H : Hp} (h : tSt K w mg W (pa && pb) as (seqF a b) D σ H) : tSt K w mg W pa as a { D with nx := fun σ' H' => tSt K w mg W pb as b D σ' H' } σ H := by
  obtain ⟨m, F, A, hR, hG, h⟩ := h
  refine ⟨m, F, A, hR, hG, ?_⟩
  unfold seqF at h
  have i1 : (pa && pb) = true → pa = true := fun z => (Bool.and_eq_true_iff.mp z).1
  cases e : a m with
  | bad => rw [e] at h; exact h
  | er c x => rw [e] at h; exact h
  | ok o =>
    rw [e] at h
    cases o with
    | nx m1 =>
      simp only at h
      rintro σ' H' ⟨F', A', h1, h2, h3, h4, h5⟩
      exact ⟨m1, F', A', h1, h2, h.step h3 h4 h5⟩
    | bk m1 => exact h.weak i1
    | ct m1 => exact h.weak i1
    | rt k m1 => exact h
/-- a test, then its way -/
theorem cond_st {pc ps : Bool} {fc : EvF} {g : Bool → StF} {D : Ends} {σ : L2.St} {H : Hp} (h : tSt K w mg W (pc && ps) as (fun m => (condF fc m).bind fun (t, m1) => g t m1) D σ H) :
    tB (tE K w mg W pc fc) σ H fun t H1 => tSt K w mg W ps as (g t) D σ H1 := by
  have h' : tSt K w mg W (pc && ps) as (fun m => (fc m).bind fun (r, m1) => (match r.m.bl? with
    | some b => g b
    | none => fun _ => .bad) m1) D σ H := by
    obtain ⟨m, F, A, hR, hG, h⟩ := h
    refine ⟨m, F, A, hR, hG, ?_⟩
    unfold condF at h
    cases e : fc m with
    | bad => simp only [e] at h ⊢; exact h
    | er c x => simp only [e] at h ⊢; exact h
    | ok p =>
      obtain ⟨r, m1⟩ := p
      simp only [e, Res.bind_ok] at h ⊢
      cases eb : r.m.bl? with
      | none => simp only [eb] at h; exact h
      | some b => simp only [eb, Res.bind_ok] at h; exact h
  refine tE_mono (tE_st (g := fun r => match r.m.bl? with
    | some b => g b
    | none => fun _ => .bad) h') fun x H1 ⟨r, m1, F1, A1, T, hR, hG, hr, q⟩ => ?_
  cases eb : r.m.bl? with
  | none => simp only [eb] at q; exact q.elim
  | some b =>
    simp only [eb] at q
    refine ⟨b, hr.bl eb, m1, F1, A1, hR, hG.left, ?_⟩
    have := ResP.step (p1 := true) (pb := ps) (stp_drop (F := F1) (H := H1) (A := A1 ++ T) (B := A1) fun a ha => List.mem_append_left _ ha) (Agree.refl as σ) (fun _ => Same.refl H1) (r := g b m1) (D := D) (K := K) (w := w) (mg := mg) (W := W) (by rw [Bool.true_and]; exact q)
    exact this
theorem ite_read' {pc pa pb : Bool} {fc : EvF} {a b : StF} {D : Ends} {σ : L2.St} {H : Hp} (h : tSt K w mg W (pc && (pa && pb)) as (iteS (condF fc) a b) D σ H) : tIfS (tB (tE K w mg W pc fc)) (tSt K w mg W pa as a) (tSt K w mg W pb as b) D σ H := by
  have h' : tSt K w mg W (pc && (pa && pb)) as (fun m => (condF fc m).bind fun (t, m1) => (if t = true then a else b) m1) D σ H := by
    obtain ⟨m, F, A, hR, hG, h⟩ := h
    refine ⟨m, F, A, hR, hG, ?_⟩
    unfold iteS at h
    cases e : condF fc m with
    | bad => simp only [e] at h ⊢; exact h
    | er c x => simp only [e] at h ⊢; exact h
    | ok p =>
      obtain ⟨t, m1⟩ := p
      simp only [e, Res.bind_ok] at h ⊢
      cases t <;> exact h
  have q := cond_st (g := fun t => if t = true then a else b) h'
  refine tE_mono q fun x H1 ⟨t, ex, q⟩ => ⟨t, ex, ?_⟩
  cases t with
  | true => exact tSt_weak (fun z => (Bool.and_eq_true_iff.mp z).1) q
  | false => exact tSt_weak (fun z => (Bool.and_eq_true_iff.mp z).2) q
theorem cond_stI {pc ps : Bool} {fc : EvF} {g : Bool → StF} {D : Ends} {σ : L2.St} {H : Hp} (h : tSt K w mg W (pc && ps) as (fun m => (condI fc m).bind fun (t, m1) => g t m1) D σ H) :
    tE K w mg W pc fc σ H fun x H1 => ∃ i : Int, x = .int i ∧ tSt K w mg W ps as (g (i != 0)) D σ H1 := by
  have h' : tSt K w mg W (pc && ps) as (fun m => (fc m).bind fun (r, m1) => (match r.m.int? with
    | some b => g (b != 0)
    | none => fun _ => .bad) m1) D σ H := by
    obtain ⟨m, F, A, hR, hG, h⟩ := h
    refine ⟨m, F, A, hR, hG, ?_⟩
    unfold condI at h
    cases e : fc m with
    | bad => simp only [e] at h ⊢; exact h
    | er c x => simp only [e] at h ⊢; exact h
    | ok p =>
      obtain ⟨r, m1⟩ := p
      simp only [e, Res.bind_ok] at h ⊢
      cases eb : r.m.int? with
      | none => simp only [eb] at h; exact h
      | some b => simp only [eb, Res.bind_ok] at h; exact h
  refine tE_mono (tE_st (g := fun r => match r.m.int? with
    | some b => g (b != 0)
    | none => fun _ => .bad) h') fun x H1 ⟨r, m1, F1, A1, T, hR, hG, hr, q⟩ => ?_
  cases eb : r.m.int? with
  | none => simp only [eb] at q; exact q.elim
  | some b =>
    simp only [eb] at q
    refine ⟨b, hr.int eb, m1, F1, A1, hR, hG.left, ?_⟩
    have := ResP.step (p1 := true) (pb := ps) (stp_drop (F := F1) (H := H1) (A := A1 ++ T) (B := A1) fun a ha => List.mem_append_left _ ha) (Agree.refl as σ) (fun _ => Same.refl H1) (r := g (b != 0) m1) (D := D) (K := K) (w := w) (mg := mg) (W := W) (by rw [Bool.true_and]; exact q)
    exact this
theorem ite_readI {pc pa pb : Bool} {fc : EvF} {a b : StF} {D : Ends} {σ : L2.St} {H : Hp} (h : tSt K w mg W (pc && (pa && pb)) as (iteS (condI fc) a b) D σ H) : tIfS (fun σ H Q => tE K w mg W pc fc σ H fun x H' => ∃ k, TruV K x H' k ∧ Q k H') (tSt K w mg W pa as a) (tSt K w mg W pb as b) D σ H := by
  have h' : tSt K w mg W (pc && (pa && pb)) as (fun m => (condI fc m).bind fun (t, m1) => (if t = true then a else b) m1) D σ H := by
    obtain ⟨m, F, A, hR, hG, h⟩ := h
    refine ⟨m, F, A, hR, hG, ?_⟩
    unfold iteS at h
    cases e : condI fc m with
    | bad => simp only [e] at h ⊢; exact h
    | er c x => simp only [e] at h ⊢; exact h
    | ok p =>
      obtain ⟨t, m1⟩ := p
      simp only [e, Res.bind_ok] at h ⊢
      cases t <;> exact h
  have q := cond_stI (g := fun t => if t = true then a else b) h'
  refine tE_mono q fun x H1 ⟨i, ex, q⟩ => ⟨i != 0, by subst ex; rfl, ?_⟩
  revert q
  cases i != 0 with
  | true => exact fun q => tSt_weak (fun z => (Bool.and_eq_true_iff.mp z).1) q
  | false => exact fun q => tSt_weak (fun z => (Bool.and_eq_true_iff.mp z).2) q
end
end Oa

/-! Part 26: loops. -/
namespace Oa
open PySem PySem.Spec PyProof.Rows L2
section
variable {K : PySem.W.Frag} {w : World} {mg : Str → Option Value} {W : WX} {as : List Nat}
theorem ResP.ends {pu : Bool} {F H : Hp} {A : List Addr} {σ : L2.St} {D D' : Ends} (hn : ∀ σ H, D.nx σ H → D'.nx σ H) (hb : ∀ σ H, D.bk σ H → D'.bk σ H) (hc : ∀ σ H, D.ct σ H → D'.ct σ H) (hr : ∀ v H, D.rt v H → D'.rt v H) : ∀ {r : Res Out}, ResP K w mg W pu as F H A σ D r → ResP K w mg W pu as F H A σ D' r
  | .ok (.nx m'), h => fun σ' H' q => hn _ _ (h σ' H' q)
  | .ok (.bk m'), h => fun σ' H' q => hb _ _ (h σ' H' q)
  | .ok (.ct m'), h => fun σ' H' q => hc _ _ (h σ' H' q)
  | .ok (.rt k m'), h => fun v H' q => hr _ _ (h v H' q)
  | .er c x, h => h
  | .bad, h => h
theorem for_read {pi pb : Bool} {t : Tg} {src : Sl → Res (List D × Sl)} {body : StF} {E : Ends} {σ : L2.St} {H : Hp} (ht : ∀ i ∈ t.slots, i ∈ as) (h : tSt K w mg W (pi && pb) as (fun m => (src m).bind fun (ds, m1) => forF t body ds m1) E σ H) :
    tFor (tI K w mg W pi pb src) (gT K w t) (tSt K w mg W pb as body) E σ H := by
  obtain ⟨m0, F0, A0, hR, hG, h⟩ := h
  refine ⟨m0, F0, A0, hR, hG, ?_⟩
  cases e1 : src m0 with
  | bad => simp only [e1] at h; exact h.elim
  | er c x => simp only [e1] at h; exact fun cls d H' q => h cls d σ H' (Agree.refl _ _) q
  | ok pp =>
  obtain ⟨ds, m1⟩ := pp
  simp only [e1, Res.bind_ok] at h
  rintro J H1 ⟨F1, A1, hR1, g1, s1, q1, ok⟩
  have h1 := h.step s1 (Agree.refl as σ) q1
  refine ⟨fun i n σ' H' => n = ds.length - i ∧ i ≤ ds.length ∧ ∃ m F A, RS K w F H' σ' m A ∧ GS F H' A ∧ Stp A1 F1 H1 A F H' ∧ Agree as σ σ' ∧ (pb = true → Same H1 H') ∧ ResP K w mg W pb as F1 H1 A1 σ E (forF t body (ds.drop i) m), ⟨ds.length, by simp, Nat.zero_le _, m1, F1, A1, hR1, g1, Stp.refl, Agree.refl _ _, fun _ => Same.refl _, h1⟩, ?_⟩
  rintro i n σ' H' ⟨rfl, hi, m, F, A, rs, gs, st, ag, sm, fin⟩
  have sG : Same (if pb = true then H1 else F1) H' := by
    cases pb with
    | false => exact st.ff.trans gs.sub
    | true => exact sm rfl
  by_cases hlt : i < ds.length
  · right
    refine ⟨ok.go i H' sG hlt, fun σ2 H2 => ∃ m F A, RS K w F H2 σ2 m A ∧ GS F H2 A ∧ Stp A1 F1 H1 A F H2 ∧ Agree as σ σ2 ∧ (pb = true → Same H1 H2) ∧ ResP K w mg W pb as F1 H1 A1 σ E (forF t body (ds.drop (i + 1)) m), fun σ2 H2 q => ⟨ds.length - (i + 1), by omega, rfl, hlt, q⟩, fun x H2 y => ?_⟩
    obtain ⟨F2, s2, sf2, sh2, rx⟩ := ok.yld i H' x H2 F _ sG st.ff gs.sub y (List.getElem?_eq_getElem hlt)
    rw [List.drop_eq_getElem_cons hlt] at fin
    unfold forF at fin
    cases ep : t.put ds[i] m with
    | none => rw [ep] at fin; exact fin.elim
    | some mp =>
    rw [ep] at fin
    simp only at fin
    obtain ⟨g2, st2, k2⟩ := carry (A := []) (A' := []) (S := A) (by simpa using gs) s2 (gs_nil sf2)
    simp only [List.nil_append] at g2 st2
    refine ⟨m, F2, A, ds[i], mp, rs.keep s2.ff k2, sf2, rx, ep, fun σ2 A2 r2 sub2 ag2 => ?_⟩
    have st3 : Stp A1 F1 H1 A2 F2 H2 := st.trans (st2.mem (fun _ h => h) fun a ha => .inl (sub2.subset ha))
    have ag3 : Agree as σ σ2 := ag.trans (ag2.mono ht)
    have sm3 : pb = true → Same H1 H2 := fun z => (sm z).trans sh2
    refine ⟨mp, F2, A2, r2, g2.sub' sub2, ?_⟩
    cases eb : body mp with
    | bad => rw [eb] at fin; exact fin
    | er c x =>
      rw [eb] at fin
      exact fun cls d σ' H' a q => fin cls d σ' H' (ag3.trans a) (q.back st3)
    | ok o =>
      rw [eb] at fin
      cases o with
      | nx m2 =>
        rintro σ4 H4 ⟨F4, A4, h1, h2, h3, h4, h5⟩
        exact ⟨m2, F4, A4, h1, h2, st3.trans h3, ag3.trans h4, fun z => (sm3 z).trans (h5 z), fin⟩
      | ct m2 =>
        rintro σ4 H4 ⟨F4, A4, h1, h2, h3, h4, h5⟩
        exact ⟨m2, F4, A4, h1, h2, st3.trans h3, ag3.trans h4, fun z => (sm3 z).trans (h5 z), fin⟩
      | bk m2 =>
        rintro σ4 H4 ⟨F4, A4, h1, h2, h3, h4, h5⟩
        exact fin σ4 H4 ⟨F4, A4, h1, h2, st3.trans h3, ag3.trans h4, fun z => (sm3 z).trans (h5 z)⟩
      | rt k m2 =>
        rintro v H4 ⟨F4, A4, T, σ4, h1, h2, h3, h4, h5⟩
        exact fin v H4 ⟨F4, A4, T, σ4, h1, h2, st3.trans h3, h4, ag3.trans h5⟩
  · left
    refine ⟨ok.stop i H' sG (by omega), ?_⟩
    rw [List.drop_of_length_le (by omega)] at fin
    exact fin σ' H' ⟨F, A, rs, gs, st, ag, sm⟩
theorem whl_read {pc pb : Bool} {fc : EvF} {body : StF} {fu : Nat} {E : Ends} {σ : L2.St} {H : Hp} (h : tSt K w mg W (pc && pb) as (whlF (condF fc) body fu) E σ H) :
    tWhile (tB (tE K w mg W pc fc)) (tSt K w mg W pb as body) E σ H := by
  obtain ⟨m0, F0, A0, hR, hG, h⟩ := h
  refine ⟨fun n σ' H' => ∃ m F A, RS K w F H' σ' m A ∧ GS F H' A ∧ Stp A0 F0 H A F H' ∧ Agree as σ σ' ∧ ((pc && pb) = true → Same H H') ∧ ResP K w mg W (pc && pb) as F0 H A0 σ E (whlF (condF fc) body n m), ⟨fu, m0, F0, A0, hR, hG, Stp.refl, Agree.refl _ _, fun _ => Same.refl _, h⟩, ?_⟩
  rintro n σ' H' ⟨m, F, A, rs, gs, st, ag, sm, fin⟩
  cases n with
  | zero => exact fin.elim
  | succ n =>
    unfold whlF at fin
    refine ⟨m, F, A, rs, gs, ?_⟩
    unfold condF at fin
    cases e : fc m with
    | bad => simp only [e] at fin; exact fin
    | er c x =>
      simp only [e, Res.bind_er] at fin
      exact fun cls d H2 q => fin cls d σ' H2 ag (q.back st)
    | ok p =>
      obtain ⟨r, m1⟩ := p
      simp only [e, Res.bind_ok] at fin
      show ∀ x H', EvP K w pc F _ A σ' r m1 x H' → _
      rintro x H1 ⟨F1, A1, T1, hR1, g1, s1, r1, p1⟩
      have st1 : Stp A0 F0 H A1 F1 H1 := st.trans (s1.mem (fun _ h => h) fun a ha => .inl (List.mem_append_left _ ha))
      cases eb : r.m.bl? with
      | none => simp only [eb] at fin; exact fin.elim
      | some b =>
        simp only [eb] at fin
        refine ⟨b, r1.bl eb, ?_⟩
        cases b with
        | false =>
          simp only at fin
          rw [if_neg Bool.false_ne_true]
          exact fin σ' H1 ⟨F1, A1, hR1, g1.left, st1, ag, fun z => (sm z).trans (p1 (Bool.and_eq_true_iff.mp z).1)⟩
        | true =>
          simp only at fin
          rw [if_pos rfl]
          refine ⟨fun σ2 H2 => ∃ m F A, RS K w F H2 σ2 m A ∧ GS F H2 A ∧ Stp A0 F0 H A F H2 ∧ Agree as σ σ2 ∧ ((pc && pb) = true → Same H H2) ∧ ResP K w mg W (pc && pb) as F0 H A0 σ E (whlF (condF fc) body n m), fun σ2 H2 q => ⟨n, Nat.lt_succ_self n, q⟩, m1, F1, A1, hR1, g1.left, ?_⟩
          have sm1 : (pc && pb) = true → Same H H1 := fun z => (sm z).trans (p1 (Bool.and_eq_true_iff.mp z).1)
          cases ey : body m1 with
          | bad => simp only [ey] at fin; exact fin
          | er c x =>
            simp only [ey] at fin
            exact fun cls d σ2 H2 a q => fin cls d σ2 H2 (ag.trans a) (q.back st1)
          | ok o =>
            simp only [ey] at fin
            cases o with
            | nx m2 =>
              rintro σ4 H4 ⟨F4, A4, h1, h2, h3, h4, h5⟩
              exact ⟨m2, F4, A4, h1, h2, st1.trans h3, ag.trans h4, fun z => (sm1 z).trans (h5 (Bool.and_eq_true_iff.mp z).2), fin⟩
            | ct m2 =>
              rintro σ4 H4 ⟨F4, A4, h1, h2, h3, h4, h5⟩
              exact ⟨m2, F4, A4, h1, h2, st1.trans h3, ag.trans h4, fun z => (sm1 z).trans (h5 (Bool.and_eq_true_iff.mp z).2), fin⟩
            | bk m2 =>
              rintro σ4 H4 ⟨F4, A4, h1, h2, h3, h4, h5⟩
              exact fin σ4 H4 ⟨F4, A4, h1, h2, st1.trans h3, ag.trans h4, fun z => (sm1 z).trans (h5 (Bool.and_eq_true_iff.mp z).2)⟩
            | rt k m2 =>
              rintro v H4 ⟨F4, A4, T, σ4, h1, h2, h3, h4, h5⟩
              exact fin v H4 ⟨F4, A4, T, σ4, h1, h2, st1.trans h3, h4, ag.trans h5⟩
end
end Oa

/-! Part 27: statements that store. -/
namespace Oa
open PySem PySem.Spec PyProof.Rows L2
section
variable {K : PySem.W.Frag} {w : World} {mg : Str → Option Value} {W : WX} {as : List Nat}
abbrev ipA (p : P2) : TIp := fun x y H Q => ∃ a b c, x = .int a ∧ y = .int b ∧ augI p a b = some c ∧ Q (.int c) H
theorem aug_read {pe : Bool} {i : Nat} {p : P2} {fe : EvF} {E : Ends} {σ : L2.St} {H : Hp} (hi : i ∈ as) (h : tSt K w mg W pe as (augF i p fe) E σ H) : tAug i (tE K w mg W pe fe) (ipA p) E σ H := by
  obtain ⟨m, F, A, hR, hG, h⟩ := h
  unfold augF at h
  split at h
  · rename_i a em
    obtain ⟨u, A1, A2, A3, g1, _, g3, _, _⟩ := hR.at em
    simp only [RM, RepD] at g3
    obtain ⟨rfl, _⟩ := g3
    refine ⟨_, g1, ?_⟩
    have h' : tSt K w mg W (pe && true) as (fun m => (fe m).bind fun (r, m1) => (match r.m.int? with
      | some b => (match augI p a b with
        | some c => outN (putS i (.d (.int c)) m1)
        | none => .bad)
      | none => .bad)) E σ H := by
      rw [Bool.and_true]
      exact ⟨m, F, A, hR, hG, h⟩
    refine tE_mono (tE_st (g := fun r m1 => (match r.m.int? with
      | some b => (match augI p a b with
        | some c => outN (putS i (.d (.int c)) m1)
        | none => .bad)
      | none => .bad)) h') fun x H1 ⟨r, m1, F1, A1, T, hR1, hG1, hr, q⟩ => ?_
    cases eb : r.m.int? with
    | none => simp only [eb] at q; exact q.elim
    | some b =>
      simp only [eb] at q
      cases ec : augI p a b with
      | none => simp only [ec] at q; exact q.elim
      | some c =>
        simp only [ec] at q
        unfold putS at q
        split at q
        · rename_i hl
          refine ⟨a, b, c, rfl, hr.int eb, ec, ?_⟩
          obtain ⟨A', k1, k2, k3⟩ := rs_store (x := .int c) (k := .d (.int c)) (T := []) hR1 (by simpa using hG1.left) hl (by simp only [RM, RepD]; exact ⟨trivial, trivial⟩)
          exact q _ H1 ⟨F1, A', k1, k2, stp_drop fun a ha => List.mem_append_left _ (by simpa using k3 a ha), agree_set hi, fun _ => Same.refl _⟩
        · exact q.elim
  · exact h.elim
theorem tAr_weak {p q : Bool} {f : Sl → Res (List Arg × Sl)} {σ : L2.St} {H : Hp} {Q : List V → Hp → Prop} (i : p = true → q = true) (h : tAr K w mg W p f σ H Q) : tAr K w mg W q f σ H Q := by
  obtain ⟨m, F, A, hR, hG, h⟩ := h
  refine ⟨m, F, A, hR, hG, ?_⟩
  cases e : f m with
  | ok z =>
    rw [e] at h
    obtain ⟨r, m'⟩ := z
    intro x H' ⟨F', A', T, a1, a2, a3, a4, a5⟩
    exact h x H' ⟨F', A', T, a1, a2, a3, a4, fun e => a5 (i e)⟩
  | er c x => rw [e] at h; exact h
  | bad => rw [e] at h; exact h
theorem tAr_w2 {σ : L2.St} {H : Hp} {Q : List V → Hp → Prop} {i : Nat} {pb : Bool} {fs : Sl → Res (List Arg × Sl)} (h : tAr K w mg W pb (arW i fs) σ H Q) :
    ∃ u, σ[i]? = some (some u) ∧ tAr K w mg W pb fs σ H fun xs H2 => Q (u :: xs) H2 := by
  obtain ⟨m, F, A, hR, hG, h⟩ := h
  unfold arW at h
  cases em : m[i]? with
  | none => rw [em] at h; exact h.elim
  | some o => cases o with
    | none => rw [em] at h; exact h.elim
    | some kk =>
      rw [em] at h
      simp only at h
      obtain ⟨u, A1, A2, A3, g1, _, _, _, _⟩ := hR.at em
      refine ⟨u, g1, m, F, A, hR, hG, ?_⟩
      cases e2 : fs m with
      | bad => rw [e2] at h; exact h.elim
      | er c y => rw [e2] at h; exact h
      | ok p =>
        obtain ⟨bs, m2⟩ := p
        rw [e2] at h
        simp only [Res.bind_ok] at h
        show ∀ xs H', ArP K w pb F H A σ bs m2 xs H' → _
        rintro xs H2 ⟨F2, A2, T2, hR2, g2, s2, r2, p2⟩
        exact h (u :: xs) H2 ⟨F2, A2, T2, hR2, g2, s2, ⟨g1, r2⟩, p2⟩
theorem tAr_st {fs : Sl → Res (List Arg × Sl)} {g : List Arg → StF} {E : Ends} {σ : L2.St} {H : Hp} (h : tSt K w mg W false as (fun m => (fs m).bind fun (r, m1) => g r m1) E σ H) :
    tAr K w mg W false fs σ H fun xs H1 => ∃ r m1 F1 A1 T, RS K w F1 H1 σ m1 A1 ∧ GS F1 H1 (A1 ++ T) ∧ AR K w F1 H1 σ xs r T ∧ ResP K w mg W false as F1 H1 (A1 ++ T) σ E (g r m1) := by
  obtain ⟨m, F, A, hR, hG, h⟩ := h
  refine ⟨m, F, A, hR, hG, ?_⟩
  cases e1 : fs m with
  | bad => simp only [e1] at h; exact h.elim
  | er c x =>
    simp only [e1] at h
    exact fun cls d H' q => h cls d σ H' (Agree.refl _ _) q
  | ok p =>
    obtain ⟨r, m1⟩ := p
    simp only [e1, Res.bind_ok] at h
    show ∀ xs H', ArP K w false F H A σ r m1 xs H' → _
    rintro x H1 ⟨F1, A1, T1, hR1, g1, s1, r1, p1⟩
    exact ⟨r, m1, F1, A1, T1, hR1, g1, r1, ResP.step (p1 := false) s1 (Agree.refl _ _) (fun e => by cases e) (by rw [Bool.false_and]; exact h)⟩
theorem setI_read {pe pa : Bool} {i : Nat} {fe fa : EvF} {E : Ends} {σ : L2.St} {H : Hp} (h : tSt K w mg W false as (setIF i pa fe fa) E σ H) :
    tE K w mg W pe fe σ H fun v H1 => ∃ u, σ[i]? = some (some u) ∧ tE K w mg W pa fa σ H1 fun z H2 => rSetL u z v H2 fun H3 => E.nx σ H3 := by
  have h1 := tAr_weak (q := pe && pa) (fun e => by cases e) (tAr_st (g := fun as m1 => match as with
    | [.r r, .w _, .r q] => (match q.m.int?, m1[i]? with
      | some j, some (some k) => (match setTo k j r with
        | some k' => .ok (.nx (m1.set i (some k')))
        | none => .bad)
      | _, _ => .bad)
    | _ => .bad) h)
  refine tE_mono (tAr_r h1) fun v H1 h2 => ?_
  obtain ⟨u, hu, h2⟩ := tAr_w2 h2
  refine ⟨u, hu, ?_⟩
  have h2' := tAr_weak (q := pa && true) (fun e => by rw [Bool.and_true]; exact e) h2
  refine tE_mono (tAr_r h2') fun z H2 h3 => ?_
  obtain ⟨bs, m1, F1, A1, T, hR, hG, ar, q⟩ := tAr_nil h3
  split at q
  · rename_i r i0 q0
    simp only [AR] at ar
    obtain ⟨T1, T2, r1, ⟨r2, T3, T4, r3, r4, rfl⟩, rfl⟩ := ar
    subst r4
    split at q
    · rename_i j kk ej em
      have := r3.int ej
      subst this
      split at q
      · rename_i k' es
        have hG2 : GS F1 H2 (A1 ++ T1) := by
          rw [← List.append_assoc] at hG
          exact hG.left
        obtain ⟨u', B1, B2, B3, z1, rfl, z2, z3⟩ := wrk_slot (T := T1) hR em
        rw [hu] at z1
        cases z1
        obtain ⟨a, vs, n, F', A2', rfl, l1, l2, wk⟩ := wrk_set z2 es hG2 r1
        refine ⟨a, vs, j, n, rfl, rfl, l1, l2, q σ _ ⟨F', _, z3 wk, wk.gs, ?_, Agree.refl _ _, fun e => by cases e⟩⟩
        exact wk.st.mem (fun b hb => by
          simp only [List.mem_append] at hb ⊢
          rcases hb with hb | hb
          · exact .inl hb
          · exact .inr (.inl hb)) fun b hb => .inl hb
      · exact q.elim
    · exact q.elim
  · exact q.elim
theorem par_read {pa pb : Bool} {i j : Nat} {fa fb : EvF} {E : Ends} {σ : L2.St} {H : Hp} (hi : i ∈ as) (hj : j ∈ as) (h : tSt K w mg W (pa && pb) as (parF i j (evsCons pb fa (evsCons true fb evsNil))) E σ H) :
    tE K w mg W pa fa σ H fun x H1 => tE K w mg W pb fb σ H1 fun y H2 => E.nx ((σ.set i (some x)).set j (some y)) H2 := by
  have h1 : tAs K w mg W (pa && pb) (evsCons pb fa (evsCons true fb evsNil)) σ H fun xs H1 => ∃ x y, xs = [x, y] ∧ E.nx ((σ.set i (some x)).set j (some y)) H1 := by
    obtain ⟨m, F, A, hR, hG, h⟩ := h
    refine ⟨m, F, A, hR, hG, ?_⟩
    unfold parF at h
    cases e1 : evsCons pb fa (evsCons true fb evsNil) m with
    | bad => simp only [e1] at h; exact h.elim
    | er c x =>
      simp only [e1] at h
      exact fun cls d H' q => h cls d σ H' (Agree.refl _ _) q
    | ok p =>
      obtain ⟨rs, m1⟩ := p
      simp only [e1, Res.bind_ok] at h
      show ∀ xs H', EvPs K w (pa && pb) F H A σ rs m1 xs H' → _
      rintro xs H1 ⟨F1, A1, T1, hR1, g1, s1, r1, p1⟩
      split at h
      · rename_i d e ep
        have hd := pures_rep g1.sub r1 ep
        match xs, hd with
        | [x, y], hd =>
          simp only [RepDs] at hd
          refine ⟨x, y, rfl, ?_⟩
          have hR2 := hR1.keep (frz_sub (F := F1) (H := H1) (A := T1)) (H' := H1) fun _ _ => rfl
          have hG2 := gs_frzT g1
          cases ei : putS i (.d d) m1 with
          | none => rw [ei] at h; exact h.elim
          | some m2 =>
            rw [ei] at h
            simp only [Option.bind_some] at h
            cases ej : putS j (.d e) m2 with
            | none => rw [ej] at h; exact h.elim
            | some m3 =>
              rw [ej] at h
              unfold putS at ei ej
              split at ei
              · rename_i hl
                cases ei
                split at ej
                · rename_i hl2
                  cases ej
                  obtain ⟨A2, k1, k2, k3⟩ := rs_store (x := x) (k := .d d) (T := []) hR2 (by simpa using hG2) hl (by simp only [RM]; exact ⟨hd.1, trivial⟩)
                  obtain ⟨A3, l1, l2, l3⟩ := rs_store (x := y) (k := .d e) (T := []) k1 (by simpa using k2) hl2 (by simp only [RM]; exact ⟨hd.2.1, trivial⟩)
                  refine h _ H1 ⟨_, A3, l1, l2, s1.trans (stp_frz (fun a ha => List.mem_append_left _ ?_) fun a ha => List.mem_append_right _ ha), (agree_set hi).trans (agree_set hj), p1⟩
                  have := l3 a ha
                  simp only [List.append_nil] at this
                  simpa using k3 a this
                · cases ej
              · cases ei
        | [], hd => simp only [RepDs] at hd
        | [_], hd => simp only [RepDs] at hd; exact hd.2.elim
        | _ :: _ :: _ :: _, hd => simp only [RepDs] at hd; exact hd.2.2.elim
      · exact h.elim
  refine tE_mono (tAs_cons h1) fun x H1 q => ?_
  have h2 : tAs K w mg W (pb && true) (evsCons true fb evsNil) σ H1 fun xs H2 => ∃ x' y, x :: xs = [x', y] ∧ E.nx ((σ.set i (some x')).set j (some y)) H2 := by
    rw [Bool.and_true]
    exact q
  refine tE_mono (tAs_cons h2) fun y H2 q => ?_
  obtain ⟨x', y', e, q⟩ := tAs_nil q
  cases e
  exact q
end
end Oa

/-! Part D7: x[a] op= e of a list; raise; try. -/
namespace Oa
open PySem PySem.Spec PyProof.Rows L2
section
variable {X : Cx}
/-- a list's item by values -/
theorem get_list : PGet X (rIxL X.K) := by
  intro pins s σ H x y v u Q I rx ry h
  obtain ⟨p, xs, i, z, rfl, rfl, hq, he, q⟩ := h
  cases rx
  obtain ⟨t, rfl⟩ := ry
  obtain ⟨its, r, pl, hz⟩ := I.list hq
  obtain ⟨j, h1, h2, h3, h4, h5⟩ := atI_get he
  obtain ⟨w, ew, rw'⟩ := r.get h2
  have hl := r.length
  have hn := line63
  have fin : EP X pins σ Q w s := ⟨z, H, I, rw', q⟩
  by_cases h0 : 0 ≤ i
  · have hj : i.toNat = j := by
      rw [seqIndex_of h0 h5] at h1
      exact Option.some.inj h1
    exact wpAny_getItem_list pl.isList h0 (by omega) (by rw [hj]; simpa using ew) fin
  · have hj : (i + (its.toArray.size : Int)).toNat = j := by
      rw [seqIndex_neg (by omega) h4] at h1
      rw [List.size_toArray, ← hl]
      exact Option.some.inj h1
    exact wpAny_getItem_list_neg pl.isList (by omega) (by rw [List.size_toArray] <;> omega) (by omega) (by rw [hj]; simpa using ew) fin
/-- E() -/
theorem pmk_own0 {C : Addr} {bmB : List Value} {B newId initId : String} {x : Str} {p pos : Pos} (F : ExcBaseFacts B newId initId bmB) (q : PySem.W.excIn X.K C bmB newId = true) (gC : X.mg x = some (.ref C)) (kC : PySem.W.keepIn X.K (.ref C) = true) (r : Raises X (.ref C)) (hg : Gl X x) (hdb : (x == ("__debug__" : Str)) = false) :
    PMk X (.Call (.Name x p) [] [] pos) (fun _ H Q => Q (.ref C) none H) := by
  intro pins s σ H Q I h
  refine wpAny_Call_Name_kw (ld_glob I hg gC ?_ hdb)
  refine PySem.W.callWith_K0 I.kIn kC ?_
  show wpAny _ _ (call (.ref C) []) _ _ _
  obtain ⟨bm, N, nm, qn, bs, hdct, sn, sub, ab, col, dd, k0, k1, k2, k3, k5, mN, hC, hN, hni, T⟩ := exc_obj I.kIn q
  refine wpAny_call_exc_subT F T hC hN hni (fun h' e hm => ?_) (by show 0 ≤ sizeLine; omega)
  exact mk_of I hm r h (I.hok.gone hm.new)
end
section
variable {K : PySem.W.Frag} {w : World} {mg : Str → Option Value} {W : WX} {as : List Nat}
theorem repD_ints {H : Hp} : ∀ {vs : List V} {xs : List D} {n : Nat} {c : Int}, RepDs K w H vs xs → xs[n]? = some (.int c) → vs[n]? = some (.int c)
  | [], [], _, _, _, e => by simp at e
  | [], _ :: _, _, _, h, _ => by simp only [RepDs] at h
  | _ :: _, [], _, _, h, _ => by simp only [RepDs] at h
  | v :: vs, d :: xs, 0, c, h, e => by
    simp only [List.getElem?_cons_zero, Option.some.injEq] at e
    subst e
    simp only [RepDs, RepD] at h
    simp [h.1]
  | v :: vs, d :: xs, n + 1, c, h, e => by
    simp only [RepDs] at h
    simpa using repD_ints h.2 (by simpa using e)
theorem atI_of {vs : List V} {j : Int} {n : Nat} {v : V} (h : L2.ixN vs.length j = some n) (e : vs[n]? = some v) : atI vs j = some v := by
  unfold atI
  rw [h]
  exact e
theorem repDs_len {H : Hp} : ∀ {vs : List V} {xs : List D}, RepDs K w H vs xs → vs.length = xs.length
  | [], [], _ => rfl
  | [], _ :: _, h => by simp only [RepDs] at h
  | _ :: _, [], h => by simp only [RepDs] at h
  | v :: vs, d :: xs, h => by
    simp only [RepDs] at h
    simp [repDs_len h.2]
theorem augAt_read {pa pe : Bool} {i : Nat} {p : P2} {fa fe : EvF} {E : Ends} {σ : L2.St} {H : Hp} (h : tSt K w mg W false as (augAtF i p fa fe) E σ H) :
    ∃ u, σ[i]? = some (some u) ∧ tE K w mg W pa fa σ H fun z H1 => rIxL K u z H1 fun x H2 => tE K w mg W pe fe σ H2 fun y H3 => ipA p x y H3 fun q H4 => rSetL u z q H4 fun H5 => E.nx σ H5 := by
  obtain ⟨m, F, A, hR0, hG0, h⟩ := h
  unfold augAtF at h
  split at h
  rotate_left
  · exact h.elim
  rename_i k0 e0
  obtain ⟨u, _, _, _, z0, _, _, _, _⟩ := hR0.at e0
  refine ⟨u, z0, ?_⟩
  have h' : tSt K w mg W (pa && false) as (fun m => (fa m).bind fun (q, m1) => augAtG i p fe q m1) E σ H := by rw [Bool.and_false]; exact ⟨m, F, A, hR0, hG0, h⟩
  refine tE_mono (tE_st h') fun z H1 ⟨q, m1, F1, A1, T, hR, hG, hr, k⟩ => ?_
  unfold augAtG at k
  split at k
  · rename_i j xs ej em
    split at k
    · rename_i n en
      split at k
      · rename_i c ec
        have := hr.int ej
        subst this
        obtain ⟨u1, B1, B2, B3, z1, rfl, z2, _, _⟩ := hR.at em
        rw [z0] at z1
        cases z1
        have z2' := z2
        simp only [RM] at z2'
        obtain ⟨a, vs, rfl, l1, l2, _⟩ := z2'
        have hlen := repDs_len l2
        refine ⟨a, vs, j, .int c, rfl, rfl, .inl (.inl l1), atI_of (by rw [hlen]; exact en) (repD_ints l2 ec), ?_⟩
        have k2 : tSt K w mg W (pe && false) as (fun m => (fe m).bind fun (r, m2) => augAtH i p c j r m2) E σ H1 := ⟨m1, F1, _, hR, hG.left, ResP.step (p1 := true) (stp_drop fun a ha => List.mem_append_left _ ha) (Agree.refl _ _) (fun _ => Same.refl _) (by simpa using k)⟩
        refine tE_mono (tE_st k2) fun y H2 ⟨r, m2, F2, A2, T2, hR2, hG2, hr2, k3⟩ => ?_
        unfold augAtH at k3
        split at k3
        · rename_i b kk eb em2
          split at k3
          · rename_i zz ez
            split at k3
            · rename_i k' es
              have := hr2.int eb
              subst this
              refine ⟨c, b, zz, rfl, rfl, ez, ?_⟩
              obtain ⟨u', C1, C2, C3, y1, rfl, y2, y3⟩ := wrk_slot (T := []) hR2 em2
              rw [z0] at y1
              cases y1
              obtain ⟨a', vs', n', F', A2', ea, w1, w2, wk⟩ := wrk_set (T := []) (y := .int zz) (r := .p (.int zz)) y2 es (by simpa using hG2.left) (show RM K w F2 H2 (.int zz) (.d (.int zz)) [] by simp only [RM, RepD]; exact ⟨trivial, trivial⟩)
              cases ea
              refine ⟨a, vs', j, n', rfl, rfl, w1, w2, k3 σ _ ⟨F', _, y3 wk, wk.gs, wk.st.mem (fun b hb => ?_) fun b hb => .inl hb, Agree.refl _ _, fun e => by cases e⟩⟩
              simp only [List.append_nil] at hb
              exact List.mem_append_left _ hb
            · exact k3.elim
          · exact k3.elim
        · exact k3.elim
      · exact k.elim
    · exact k.elim
  · exact k.elim
/-! ### behind an error -/
theorem clean_ok {F H H' : Hp} {as : List Nat} : ∀ {m : Sl} {σ σ' : L2.St} {A : List Addr} {n : Nat}, RS K w F H σ m A → σ'.length = σ.length → (∀ i, n + i ∉ as → σ'[i]? = σ[i]?) → RS K w F H' σ' (cleanF as n m) []
  | [], [], σ', A, n, _, hl, _ => by
    have : σ' = [] := List.length_eq_zero_iff.mp hl
    subst this
    simp only [cleanF, RS]
  | [], _ :: _, _, _, _, h, _, _ => by simp only [RS] at h
  | _ :: _, [], _, _, _, h, _, _ => by simp only [RS] at h
  | _ :: _, _ :: _, [], _, _, _, hl, _ => by simp at hl
  | x :: m, y :: σ, z :: σ', A, n, h, hl, ha => by
    have tl : ∀ B, RS K w F H σ m B → RS K w F H' σ' (cleanF as (n + 1) m) [] := fun B hB => clean_ok hB (by simpa using hl) fun i hi => by
      have := ha (i + 1) (by rw [show n + (i + 1) = n + 1 + i by omega]; exact hi)
      simpa using this
    unfold cleanF
    by_cases hn : n ∈ as
    · rw [if_pos hn]
      cases x with
      | none =>
        simp only [RS] at h ⊢
        exact tl _ h
      | some k =>
        simp only [RS] at h ⊢
        obtain ⟨u, B1, B2, _, _, h2, _⟩ := h
        exact tl _ h2
    · rw [if_neg hn]
      have e0 := ha 0 (by simpa using hn)
      simp only [List.getElem?_cons_zero, Option.some.injEq] at e0
      subst e0
      cases x with
      | none =>
        simp only [RS] at h ⊢
        exact tl _ h
      | some k =>
        cases k with
        | d dd =>
          simp only [RS, RM] at h ⊢
          obtain ⟨u, B1, B2, h1, ⟨h2, h3⟩, h4, _⟩ := h
          exact ⟨u, [], [], h1, ⟨h2, rfl⟩, tl _ h4, rfl⟩
        | _ =>
          simp only [RS] at h ⊢
          obtain ⟨u, B1, B2, _, _, h2, _⟩ := h
          exact tl _ h2
theorem gs_clean {F H H' : Hp} {A : List Addr} (g : GS F H A) (k : ∀ a o, H a = some o → a ∉ A → H' a = some o) : Same F H' := fun a o e => by
  refine k a o (g.sub a o e) fun z => ?_
  rw [g.off a z] at e
  cases e
def Atm.v : Atm → V
  | .str x => .str x
  | .int i => .int i
  | .bool b => .bl b
  | .none => .non
theorem Atm.rep {F : Hp} : ∀ a : Atm, RepD K w F a.v a.d
  | .str _ => by simp only [Atm.v, Atm.d, RepD]
  | .int _ => by simp only [Atm.v, Atm.d, RepD]
  | .bool _ => by simp only [Atm.v, Atm.d, RepD]
  | .none => by simp only [Atm.v, Atm.d, RepD]
theorem atm_pe {X : Cx} {a : Atm} {e : Expr} (h : a.chk e = true) : PE X e (tC a.v) := by
  cases a with
  | str x =>
    simp only [Atm.chk] at h
    split at h
    · have := of_decide_eq_true h
      subst this
      exact pe_str
    · cases h
  | int x =>
    simp only [Atm.chk] at h
    split at h
    · have := of_decide_eq_true h
      subst this
      exact pe_int
    · cases h
  | bool x =>
    simp only [Atm.chk] at h
    split at h
    · have := of_decide_eq_true h
      subst this
      exact pe_bl
    · cases h
  | none =>
    simp only [Atm.chk] at h
    split at h
    · exact pe_non
    · cases h
/-- the clauses by values -/
def hdl (mg : Str → Option Value) (hs : List (Str × Nat × Atm)) : List (Value × (Addr → Value → Option Addr → TS)) := hs.map fun q => ((mg q.1).getD .none, fun _ _ _ => tAsg (tC q.2.2.v) (gName q.2.1))
theorem many_ok {fs : List (Str × Nat)} {D : Ends} {c : Str} {C : Addr} {d : Option Addr} {σ : L2.St} {H : Hp} (em : ∀ c h C Hd, fs.lookup c = some 100 → fs.lookup h = some 100 → mg c = some (.ref C) → mg h = some (.ref Hd) → PySem.W.exmOne K (.ref C) (.ref Hd) = some (mat c h))
    (er : ∀ c, fs.lookup c = some 100 → ErC K mg c) (hc : fs.lookup c = some 100) (hC : mg c = some (.ref C)) : ∀ {hs : List (Str × Nat × Atm)}, (∀ q ∈ hs, fs.lookup q.1 = some 100) →
      (match hfind c hs with
        | some (i, a) => D.nx (σ.set i (some a.v)) H
        | none => W (.ref C) d σ H) → wMany K W D (hdl mg hs) (.ref C) d σ H
  | [], _, h => h
  | q :: hs, hk, h => by
    obtain ⟨Hd, h1, _⟩ := er q.1 (hk q List.mem_cons_self)
    refine ⟨mat c q.1, ?_, fun hb a _ => ?_, fun hb => many_ok em er hc hC (fun z hz => hk z (List.mem_cons_of_mem _ hz)) ?_⟩
    · rw [h1]
      exact em c q.1 C Hd hc (hk q List.mem_cons_self) hC h1
    · unfold hfind at h
      rw [if_pos hb] at h
      exact h
    · unfold hfind at h
      rw [if_neg (by rw [hb]; exact Bool.false_ne_true)] at h
      exact h
theorem tri_read {fs : List (Str × Nat)} {pb : Bool} {as2 : List Nat} {hs : List (Str × Nat × Atm)} {kn : List Str} {f : StF} {E : Ends} {σ : L2.St} {H : Hp} (em : ∀ c h C Hd, fs.lookup c = some 100 → fs.lookup h = some 100 → mg c = some (.ref C) → mg h = some (.ref Hd) → PySem.W.exmOne K (.ref C) (.ref Hd) = some (mat c h))
    (er : ∀ c, fs.lookup c = some 100 → ErC K mg c) (hk : ∀ c ∈ kn, fs.lookup c = some 100) (hh : ∀ q ∈ hs, q.1 ∈ kn) (hi : ∀ q ∈ hs, q.2.1 ∈ as) (ha : ∀ i ∈ as2, i ∈ as) (h : tSt K w mg W false as (triF as2 hs kn f) E σ H) :
    tSt K w mg (wMany K W E (hdl mg hs)) pb as2 f E σ H := by
  obtain ⟨m, F, A, hR, hG, h⟩ := h
  refine ⟨m, F, A, hR, hG, ?_⟩
  unfold triF at h
  have spo : ∀ {m' : Sl} {σ' : L2.St} {H' : Hp}, SPo K w pb as2 F H A σ m' σ' H' → SPo K w false as F H A σ m' σ' H' := fun ⟨F', A', h1, h2, h3, h4, _⟩ => ⟨F', A', h1, h2, h3, h4.mono ha, fun e => by cases e⟩
  cases e : f m with
  | bad =>
    rw [e] at h
    exact h
  | ok o =>
    rw [e] at h
    cases o with
    | nx m' => exact fun σ' H' q => h σ' H' (spo q)
    | bk m' => exact fun σ' H' q => h σ' H' (spo q)
    | ct m' => exact fun σ' H' q => h σ' H' (spo q)
    | rt k m' => exact fun v H' ⟨F', A', T, σ', h1, h2, h3, h4, h5⟩ => h v H' ⟨F', A', T, σ', h1, h2, h3, h4, h5.mono ha⟩
  | er c x =>
    rw [e] at h
    simp only at h
    by_cases hc : c ∈ kn
    · rw [if_pos hc] at h
      intro cls d σ' H' ag q
      obtain ⟨⟨C, c1, rfl⟩, c2, _⟩ := id q
      refine many_ok em er (hk c hc) c1 (fun z hz => hk _ (hh z hz)) ?_
      cases ef : hfind c hs with
      | none =>
        rw [ef] at h
        exact h _ d σ' H' (ag.mono ha) q
      | some z =>
        obtain ⟨i, a⟩ := z
        rw [ef] at h
        simp only at h ⊢
        have r1 := clean_ok (H' := H') (σ' := σ') (n := 0) hR ag.1 (fun i hi => ag.2 i (by simpa using hi))
        unfold outN putS at h
        by_cases hl : i < (cleanF as2 0 m).length
        · rw [if_pos hl] at h
          have hia : i ∈ as := by
            have : ∀ {l : List (Str × Nat × Atm)}, hfind c l = some (i, a) → ∃ q ∈ l, q.2 = (i, a) := by
              intro l
              induction l with
              | nil => intro e; cases e
              | cons q l ih =>
                intro e
                unfold hfind at e
                split at e
                · exact ⟨q, List.mem_cons_self, Option.some.inj e⟩
                · obtain ⟨z, z1, z2⟩ := ih e
                  exact ⟨z, List.mem_cons_of_mem _ z1, z2⟩
            obtain ⟨q, q1, q2⟩ := this ef
            have := hi q q1
            rw [q2] at this
            exact this
          refine h _ H' ⟨F, [], ?_, gs_nil (gs_clean hG c2), ⟨fun _ _ e => e, c2, fun a ha => (by cases ha), fun _ _ e => .inl e⟩, ?_, fun e => by cases e⟩
          · obtain ⟨A', k1, _, k3⟩ := rs_store (T := []) (x := a.v) (k := .d a.d) r1 (gs_nil (gs_clean hG c2)) hl (by simp only [RM]; exact ⟨Atm.rep a, trivial⟩)
            have : A' = [] := List.eq_nil_iff_forall_not_mem.mpr fun b hb => by simpa using k3 b hb
            subst this
            exact k1
          · refine (ag.mono ha).trans ⟨by simp, fun j hj => ?_⟩
            rw [List.getElem?_set_ne]
            intro z
            subst z
            exact hj hia
        · rw [if_neg hl] at h
          exact h.elim
    · rw [if_neg hc] at h
      exact h.elim
end
end Oa

/-! Part D2: a dict is written. -/
namespace Oa
open PySem PySem.Spec PyProof.Rows L2
section
variable {K : PySem.W.Frag} {w : World} {mg : Str → Option Value} {W : WX} {as : List Nat}
theorem dct_ownd (a : Addr) (ents : Dc) : Ownd (dctO a ents) := fun xs z => by unfold dctO at z; cases z
/-- o[i] = v, o a dict whose keys are ints and texts -/
def rSetD (K : PySem.W.Frag) (w : World) : V → V → V → Hp → (Hp → Prop) → Prop := fun o i v H Q => ∃ (F : Hp) (a : Addr) (ents : Dc) (kvs : List (D × D)) (kd d : D), Same F H ∧ o = .ref a ∧ H a = some (dctO a ents) ∧ (kvs.map fun p => keyOf p.1).Nodup ∧ RepKs K w F ents.en kvs ∧ kOk kvs kd = true ∧ RepD K w F i kd ∧ RepD K w F v d ∧ kvs.length < sizeLine ∧
  ∀ ents', ((putK' kvs kd d).map fun p => keyOf p.1).Nodup → RepKs K w F ents'.en (putK' kvs kd d) → Q (upd H a (dctO a ents'))
theorem putK_len (kvs : List (D × D)) (k d : D) : (putK' kvs k d).length ≤ kvs.length + 1 := by
  unfold putK'
  split
  · rw [List.length_map]
    omega
  · rw [List.length_append]
    simp
theorem set_dct {X : Cx} {kr : Nat} (hr : Room kr X.A) : PSet X (rSetD X.K X.w) := by
  intro pins s σ H o i v ov iv u Q I ro ri rv h
  obtain ⟨F, a, ents, kvs, kd, d, sF, rfl, ha, nd, rk, ok, hi, hv, hl, q⟩ := h
  cases ro
  rcases kOk_cases ok with ⟨ok, kk, hk⟩ | ⟨ok, kk, hk⟩
  · obtain ⟨o, es, g1, g2, g3, g4, g5, g6⟩ := dct_at I ha
    obtain ⟨vs, q1, q2, q3⟩ := at_of (P := X.prog) g4 rk ok
    have dd : s.heap.DictOf (mixKind X.prog X.w) a vs := ⟨o, es, _, g1, g2, g3, fun x hx => q1 x (by simpa using hx), q2, q3.nodup nd⟩
    have hz : vs.length ≤ sizeLine := by rw [q3.len]; omega
    have hkv := atom_val hk hi
    subst hkv
    refine wpAny_setItem_pairs (hsz := hz) (kV_is ri) dd fun h' dd' hs => ?_
    have r' : AtR X.K X.w F (stored vs kk u) (putK' kvs kd d) := q3.put hk rv hv
    obtain ⟨ents', e1, e2, e3⟩ := tab_dct dd' r' g6 (by rw [r'.len]; have := putK_len kvs kd d; omega)
    refine ⟨upd H a (dctO a ents'), I.write (x := a) (e := a) (by rw [ha]; exact True.intro) (.inl rfl) (fun b p hb z => (hs.2 b hb).trans z) (let ⟨o, _, g, _⟩ := e1; ⟨o, g⟩) (dct_ok e1), q ents' e2 e3⟩
  · obtain ⟨xs, t1, t2, t3, t4⟩ := dct_tabH I sF ha nd rk ok
    obtain ⟨b, rfl⟩ := tup_val hk hi
    have hn := nested_is I kd (hi.mono sF) ri (tup_key hk).1
    cases ri
    refine wpAny_setItem_heap (knd := nestedKind X.prog X.w) (k := kk) (hsz := t4) (by show X.A.in1.units + 8 < cLine; rw [Around.in1_units]; have := hr.units; omega) ⟨hn, (tup_key hk).2.1⟩ t1 fun h' dd' hs => ?_
    have r' : AtH X.K X.w F (storedH xs kk b u) (putK' kvs kd d) := t2.put hk hi rv hv
    obtain ⟨ents', e1, e2, e3⟩ := tabH_dct dd' r' t3 (by rw [r'.len]; have := putK_len kvs kd d; omega)
    refine ⟨upd H a (dctO a ents'), I.write (x := a) (e := a) (by rw [ha]; exact True.intro) (.inl rfl) (fun b p hb z => (hs.2 b hb).trans z) (let ⟨o, _, g, _⟩ := e1; ⟨o, g⟩) (dct_ok e1), q ents' e2 e3⟩
theorem dput_read {pe pa : Bool} {i : Nat} {fe fa : EvF} {E : Ends} {σ : L2.St} {H : Hp} (h : tSt K w mg W false as (putDF i pa fe fa) E σ H) :
    tE K w mg W pe fe σ H fun v H1 => ∃ u, σ[i]? = some (some u) ∧ tE K w mg W pa fa σ H1 fun z H2 => rSetD K w u z v H2 fun H3 => E.nx σ H3 := by
  have h1 := tAr_weak (q := pe && pa) (fun e => by cases e) (tAr_st (g := fun as m1 => match as with
    | [.r r, .w _, .r q] => (match m1[i]? with
      | some (some k) => (match putTo k q r with
        | some k' => .ok (.nx (m1.set i (some k')))
        | none => .bad)
      | _ => .bad)
    | _ => .bad) h)
  refine tE_mono (tAr_r h1) fun v H1 h2 => ?_
  obtain ⟨u, hu, h2⟩ := tAr_w2 h2
  refine ⟨u, hu, ?_⟩
  have h2' := tAr_weak (q := pa && true) (fun e => by rw [Bool.and_true]; exact e) h2
  refine tE_mono (tAr_r h2') fun z H2 h3 => ?_
  obtain ⟨bs, m1, F1, A1, T, hR, hG, ar, q⟩ := tAr_nil h3
  split at q
  · rename_i r i0 q0
    simp only [AR] at ar
    obtain ⟨T1, T2, r1, ⟨r2, T3, T4, r3, r4, rfl⟩, rfl⟩ := ar
    subst r4
    split at q
    · rename_i kk em
      split at q
      · rename_i k' ek
        have hG2 : GS F1 H2 (A1 ++ T1) := by
          rw [← List.append_assoc] at hG
          exact hG.left
        obtain ⟨u', B1, B2, B3, z1, rfl, z2, z3, _⟩ := hR.at em
        rw [hu] at z1
        cases z1
        unfold putTo at ek
        split at ek
        · rename_i kvs kd e0
          split at ek
          · rename_i hc
            split at ek
            · rename_i d ekk
              cases ek
              rw [Bool.and_eq_true, decide_eq_true_eq] at hc
              obtain ⟨F5, T5, s5, g5, f5, r5, _⟩ := keep_of (A := B1 ++ B2 ++ B3) (S := []) (by simpa using hG2) r1 ekk
              simp only [RM] at z2 r5
              obtain ⟨a, ents, rfl, y1, y2, y3, rfl⟩ := z2
              obtain ⟨r5, rfl⟩ := r5
              simp only [List.append_nil, List.nil_append] at g5 s5
              have hkd : RepD K w F1 z kd := r3.pure e0
              refine ⟨F5, a, ents, kvs, kd, d, g5.sub, rfl, y1, y2, y3.mono f5, hc.1, hkd.mono f5, r5, by rw [← big_eq]; exact hc.2, fun ents' n1 n2 => ?_⟩
              obtain ⟨w1, w2, w3⟩ := own_write (o := dctO a ents') g5 (List.mem_singleton.mpr rfl) (dct_ownd a ents')
              have hrm : RM K w F5 (upd H2 a (dctO a ents')) (.ref a) (.m (putK' kvs kd d)) [a] := by
                simp only [RM]
                exact ⟨a, ents', rfl, upd_same, n1, n2, rfl⟩
              have hRS := z3 F5 (upd H2 a (dctO a ents')) (.ref a) (.m (putK' kvs kd d)) [a] f5 w3 hrm
              rw [set_same hu] at hRS
              refine q σ _ ⟨F5, _, hRS, w1, ?_, Agree.refl _ _, fun e => by cases e⟩
              refine (s5.trans w2).mem (fun b hb => ?_) fun b hb => .inl hb
              simp only [List.mem_append] at hb ⊢
              rcases hb with hb | hb
              · exact .inl hb
              · exact .inr (.inl hb)
            · cases ek
          · cases ek
        · cases ek
      · exact q.elim
    · exact q.elim
  · exact q.elim
end
end Oa

/-! Part D6: x.setdefault(k, []).append(y). -/
namespace Oa
open PySem PySem.Spec PyProof.Rows L2
section
variable {K : PySem.W.Frag} {w : World} {P : Program}
/-- entries and the machine's pairs -/
def EnV (P : Program) (w : World) : List En → List (Key × Value) → Prop
  | [], [] => True
  | n :: ns, p :: vs => (n.h = (mixKind P w).hash p.1 ∧ n.k = kV p.1 ∧ RelV n.v p.2) ∧ EnV P w ns vs
  | _, _ => False
theorem env_of {F : Hp} : ∀ {es : List DictEntry} {ns : List En} {ks : List D}, EnsOk es ns → RepKy K w F ns ks → atomsK ks = true → ∃ vs : List (Key × Value), (∀ e ∈ es, ∃ k, (mixKind P w).is k e.key = true ∧ e.hash = (mixKind P w).hash k) ∧ Pairs (mixKind P w) es vs ∧ EnV P w ns vs ∧ (vs.map fun p => some (nkOf p.1)) = ks.map keyOf
  | [], [], [], _, _, _ => ⟨[], (fun e h => by cases h), .nil, trivial, rfl⟩
  | [], [], _ :: _, _, h, _ => by simp only [RepKy] at h
  | [], _ :: _, _, h, _, _ => by simp only [EnsOk] at h
  | _ :: _, [], _, h, _, _ => by simp only [EnsOk] at h
  | _ :: _, _ :: _, [], _, h, _ => by simp only [RepKy] at h
  | e :: es, n :: ns, a :: ks, h1, h2, h3 => by
    simp only [EnsOk] at h1
    simp only [RepKy] at h2
    have h3' : ((atomKey a).isSome && atomsK ks) = true := h3
    rw [Bool.and_eq_true] at h3'
    obtain ⟨kk, hk⟩ := Option.isSome_iff_exists.mp h3'.1
    obtain ⟨⟨e1, e2, e3⟩, h1⟩ := h1
    obtain ⟨⟨⟨nk, n1, n2⟩, r1⟩, h2⟩ := h2
    obtain ⟨vs, q1, q2, q3, q4⟩ := env_of h1 h2 h3'.2
    have hv := atom_val hk r1
    rw [hv] at e2
    have his := kV_is (P := P) (w := w) e2
    rw [atom_key hk] at n1
    cases n1
    have hh : e.hash = (mixKind P w).hash kk := by
      rw [e1, n2, nk_hash]
      rfl
    refine ⟨(kk, e.val) :: vs, fun f hf => ?_, .cons his rfl q2, ?_, ?_⟩
    · rcases List.mem_cons.mp hf with rfl | hf
      · exact ⟨kk, his, hh⟩
      · exact q1 f hf
    · simp only [EnV]
      exact ⟨⟨by rw [n2, nk_hash]; rfl, hv, e3⟩, q3⟩
    · rw [List.map_cons, List.map_cons, q4, atom_key hk]
theorem ens_back : ∀ {es : List DictEntry} {vs : List (Key × Value)} {ns : List En}, (∀ e ∈ es, ∃ k, (mixKind P w).is k e.key = true ∧ e.hash = (mixKind P w).hash k) → Pairs (mixKind P w) es vs → EnV P w ns vs → EnsOk es ns
  | _, _, [], _, .nil, _ => trivial
  | _, _, _ :: _, _, .nil, h => by simp only [EnV] at h
  | _, _, [], _, .cons _ _ _, h => by simp only [EnV] at h
  | e :: es, p :: vs, n :: ns, hk, .cons his hv hp, h => by
    simp only [EnV] at h
    obtain ⟨⟨h1, h2, h3⟩, h4⟩ := h
    obtain ⟨k', j1, j2⟩ := hk e List.mem_cons_self
    have : k' = p.1 := (mixKind P w).inj _ _ _ j1 his
    subst this
    have hkey : RelV (kV p.1) e.key := by
      rcases keyIs_shape his with ⟨i, t, e1, e2⟩ | ⟨y, t, e1, e2⟩
      · rw [e1, e2]
        exact ⟨t, rfl⟩
      · rw [e1, e2]
        exact ⟨t, rfl⟩
    simp only [EnsOk]
    exact ⟨⟨by rw [h1, j2], by rw [h2]; exact hkey, by rw [hv]; exact h3⟩, ens_back (fun f hf => hk f (List.mem_cons_of_mem _ hf)) hp h4⟩
theorem env_get : ∀ {ns : List En} {vs : List (Key × Value)} {i : Nat} {n : En}, EnV P w ns vs → ns[i]? = some n → ∃ p, vs[i]? = some p ∧ n.k = kV p.1 ∧ RelV n.v p.2
  | [], _, _, _, _, e => by simp at e
  | _ :: _, [], _, _, h, _ => by simp only [EnV] at h
  | n :: ns, p :: vs, 0, m, h, e => by
    simp only [EnV] at h
    simp at e
    subst e
    exact ⟨p, rfl, h.1.2⟩
  | n :: ns, p :: vs, i + 1, m, h, e => by
    simp only [EnV] at h
    obtain ⟨q, h1, h2⟩ := env_get (i := i) h.2 (by simpa using e)
    exact ⟨q, by simpa using h1, h2⟩
theorem env_snoc {n : En} {p : Key × Value} (h : n.h = (mixKind P w).hash p.1 ∧ n.k = kV p.1 ∧ RelV n.v p.2) : ∀ {ns : List En} {vs : List (Key × Value)}, EnV P w ns vs → EnV P w (ns ++ [n]) (vs ++ [p])
  | [], [], _ => by
    simp only [List.nil_append, EnV]
    exact ⟨h, trivial⟩
  | [], _ :: _, g => by simp only [EnV] at g
  | _ :: _, [], g => by simp only [EnV] at g
  | m :: ns, q :: vs, g => by
    simp only [EnV, List.cons_append] at g ⊢
    exact ⟨g.1, env_snoc h g.2⟩
theorem env_len : ∀ {ns : List En} {vs : List (Key × Value)}, EnV P w ns vs → vs.length = ns.length
  | [], [], _ => rfl
  | [], _ :: _, g => by simp only [EnV] at g
  | _ :: _, [], g => by simp only [EnV] at g
  | m :: ns, q :: vs, g => by
    simp only [EnV] at g
    rw [List.length_cons, List.length_cons, env_len g.2]
theorem map_nk {vs : List (Key × Value)} {kk : Key} {ks : List D} {kd : D} (hk : atomKey kd = some kk) (h : (vs.map fun p => some (nkOf p.1)) = ks.map keyOf) (hn : ks.findIdx? (fun x => decide (keyOf x = keyOf kd)) = none) : valueAt vs kk = none ∧ ∀ p ∈ vs, p.1 ≠ kk := by
  have h2 : ∀ p ∈ vs, p.1 ≠ kk := fun p hp e => by
    have : some (nkOf p.1) ∈ ks.map keyOf := h ▸ List.mem_map.mpr ⟨p, hp, rfl⟩
    obtain ⟨x, hx, ex⟩ := List.mem_map.mp this
    have := List.findIdx?_eq_none_iff.mp hn x hx
    rw [decide_eq_false_iff_not, atom_key hk, ex, e] at this
    exact this rfl
  refine ⟨?_, h2⟩
  unfold valueAt
  rw [List.find?_eq_none.mpr fun p hp => by simpa using h2 p hp]
  rfl
end
section
variable {X : Cx} {W : WX}
/-- x.setdefault(k, []): the list there, or the new one -/
def rSdef (X : Cx) : V → List V → Hp → VK → Prop := fun x xs H Q => ∃ (F : Hp) (a : Addr) (c : Dc) (ks : List D) (kd : D) (kk : Key) (p : Addr), x = .ref a ∧ xs = [kV kk, .ref p] ∧ Same F H ∧ H a = some (dctO a c) ∧ (ks.map keyOf).Nodup ∧ RepKy X.K X.w F c.en ks ∧ atomsK ks = true ∧ atomKey kd = some kk ∧ ks.length < sizeLine ∧
  (∀ n en, ks.findIdx? (fun x => decide (keyOf x = keyOf kd)) = some n → c.en[n]? = some en → Q en.v H) ∧
  (ks.findIdx? (fun x => decide (keyOf x = keyOf kd)) = none → ∀ c' : Dc, c'.en = c.en ++ [⟨(nkOf kk).hash X.w, kV kk, .ref p⟩] → Q (.ref p) (upd H a (dctO a c')))
theorem mt_sdef : MtR X "dict.setdefault" (rSdef X) := by
  intro pins s σ H x xs v us Q I rx rxs h
  obtain ⟨F, a, c, ks, kd, kk, p, rfl, rfl, sF, ha, nd, rk, ok, hk, hl, h1, h2⟩ := h
  cases rx
  cases rxs with
  | cons ry rt => cases rt with
    | cons rz rt =>
      cases rt
      cases rz
      obtain ⟨o, es, g1, g2, g3, g4, g5, g6⟩ := dct_at I ha
      obtain ⟨vs, q1, q2, q3, q4⟩ := env_of (P := X.prog) g4 rk ok
      have hnd : (vs.map (·.1)).Nodup := by
        have n2 := nd
        rw [← q4] at n2
        have e : (vs.map fun p => some (nkOf p.1)) = (vs.map (·.1)).map fun k => some (nkOf k) := by rw [List.map_map]; rfl
        rw [e] at n2
        exact (List.pairwise_map.mp n2).imp fun h z => h (by rw [z])
      have dd : s.heap.DictOf (mixKind X.prog X.w) a vs := ⟨o, es, _, g1, g2, g3, fun x hx => q1 x (by simpa using hx), q2, hnd⟩
      have hlen : vs.length = ks.length := by rw [env_len q3, ← rk.length]
      refine call_meetsIn PySem.F.slot_dict_setdefault dd.typeIs PySem.F.entry_dict_setdefault (PySem.F.args_dict_setdefault_3 _ _ _) (kt_meets_setdefault (mixKind X.prog X.w) a (kV_is ry) g6 (.ref p)) ⟨vs, dd, by omega, fun v hv => ?_, fun hn h' dd' hs => ?_⟩
      · cases hf : ks.findIdx? (fun x => decide (keyOf x = keyOf kd)) with
        | none => rw [(map_nk hk q4 hf).1] at hv; cases hv
        | some n =>
          obtain ⟨hn1, hn2, _⟩ := List.findIdx?_eq_some_iff_getElem.mp hf
          have hn3 : n < c.en.length := by rw [rk.length]; exact hn1
          obtain ⟨q, e1, e2, e3⟩ := env_get q3 (List.getElem?_eq_getElem hn3)
          have e4 : q.1 = kk := by
            have hz : (vs.map fun p => some (nkOf p.1))[n]? = (ks.map keyOf)[n]? := by rw [q4]
            rw [List.getElem?_map, List.getElem?_map, e1, List.getElem?_eq_getElem hn1] at hz
            have hz2 : nkOf q.1 = nkOf kk := by
              have e5 := of_decide_eq_true hn2
              have e6 : some (nkOf q.1) = keyOf ks[n] := by simpa using hz
              rw [e5, atom_key hk] at e6
              exact Option.some.inj e6
            exact nkOf_inj hz2
          have e5 : valueAt vs kk = some q.2 := valueAt_of_mem hnd (by rw [← e4]; exact List.mem_of_getElem? e1)
          rw [e5] at hv
          cases hv
          exact ⟨c.en[n].v, H, I.tok _, e3, h1 n _ hf (List.getElem?_eq_getElem hn3)⟩
      · have hf : ks.findIdx? (fun x => decide (keyOf x = keyOf kd)) = none := by
          cases hf : ks.findIdx? (fun x => decide (keyOf x = keyOf kd)) with
          | none => rfl
          | some n =>
            exfalso
            obtain ⟨hn1, hn2, _⟩ := List.findIdx?_eq_some_iff_getElem.mp hf
            have hn3 : n < c.en.length := by rw [rk.length]; exact hn1
            obtain ⟨q, e1, e2, e3⟩ := env_get q3 (List.getElem?_eq_getElem hn3)
            have e4 : q.1 = kk := by
              have hz : (vs.map fun p => some (nkOf p.1))[n]? = (ks.map keyOf)[n]? := by rw [q4]
              rw [List.getElem?_map, List.getElem?_map, e1, List.getElem?_eq_getElem hn1] at hz
              have e5 := of_decide_eq_true hn2
              have e6 : some (nkOf q.1) = keyOf ks[n] := by simpa using hz
              rw [e5, atom_key hk] at e6
              exact nkOf_inj (Option.some.inj e6)
            have e5 : valueAt vs kk = some q.2 := valueAt_of_mem hnd (by rw [← e4]; exact List.mem_of_getElem? e1)
            rw [e5] at hn
            cases hn
        obtain ⟨_, hne⟩ := map_nk hk q4 hf
        have hst : stored vs kk (.ref p) = vs ++ [(kk, .ref p)] := by
          unfold stored
          rw [if_neg (by
            rw [List.any_eq_true]
            rintro ⟨q, hq, e⟩
            exact hne q hq (of_decide_eq_true e))]
        rw [hst] at dd'
        obtain ⟨o', es', ep', f1, f2, f3, f4, f5, f6⟩ := dd'
        have hE : EnsOk es'.toList (c.en ++ [⟨(nkOf kk).hash X.w, kV kk, .ref p⟩]) := ens_back (P := X.prog) (fun x hx => f4 x (by simpa using hx)) f5 (env_snoc (n := ⟨(nkOf kk).hash X.w, kV kk, .ref p⟩) (p := (kk, .ref p)) ⟨by rw [nk_hash]; rfl, rfl, rfl⟩ q3)
        have e1 : DctAt a ⟨ep', c.en ++ [⟨(nkOf kk).hash X.w, kV kk, .ref p⟩]⟩ h' := ⟨o', es', f1, f2, f3, hE, by rw [List.length_append, rk.length]; show ks.length + 1 ≤ _; omega, g6⟩
        exact ⟨.ref p, upd H a (dctO a ⟨ep', c.en ++ [⟨(nkOf kk).hash X.w, kV kk, .ref p⟩]⟩), I.write (t' := s.toks + 1) (x := a) (e := a) (by rw [ha]; exact True.intro) (.inl rfl) (fun b p hb z => (hs.2 b hb).trans z) (let ⟨o, _, g, _⟩ := e1; ⟨o, g⟩) (dct_ok e1), rfl, h2 hf ⟨_, _⟩ rfl⟩
theorem atomK_int {kd : Int} : atomKey (.int kd) = some (.inl kd) := rfl
/-- a list of lists by keys: one grows -/
theorem sda_old {F H1 : Hp} {a p : Addr} {ks : List D} {ms : List M} {xs : List D} {n : Nat} {A1 A2 A3 : List Addr} {y : V} {d : D} (hp : H1 p = none) (hG : GS F H1 (A1 ++ A2 ++ A3)) (hr : RM X.K X.w F H1 (.ref a) (.g ks ms) A2) (hm : ms[n]? = some (.v xs)) (hz : xs.length < big) (ry : RepD X.K X.w F y d) :
    ∃ c en b vs, c.en[n]? = some en ∧ en.v = .ref b ∧ (upd H1 p (.lst [])) b = some (.lst vs) ∧ vs.length < sizeLine ∧ (upd H1 p (.lst [])) a = some (dctO a c) ∧ RepKy X.K X.w F c.en ks ∧ (ks.map keyOf).Nodup ∧
      GS F (upd (upd H1 p (.lst [])) b (.lst (vs ++ [y]))) (A1 ++ A2 ++ A3) ∧ Stp (A1 ++ A2 ++ A3) F H1 (A1 ++ A2 ++ A3) F (upd (upd H1 p (.lst [])) b (.lst (vs ++ [y]))) ∧
      (∀ e ∈ A1 ++ A3, upd (upd H1 p (.lst [])) b (.lst (vs ++ [y])) e = H1 e) ∧ RM X.K X.w F (upd (upd H1 p (.lst [])) b (.lst (vs ++ [y]))) (.ref a) (.g ks (ms.set n (.v (xs ++ [d])))) A2 := by
  simp only [RM] at hr
  obtain ⟨a', c, B, e1, hc, h2, h3, h4, rfl⟩ := hr
  cases e1
  obtain ⟨x, B1, B2, B3, g1, rfl, g3, g4⟩ := RMs.get h4 hm
  simp only [RM] at g3
  obtain ⟨b, vs, rfl, k1, k2, rfl⟩ := g3
  obtain ⟨l1, l2, l3⟩ := gs_lay (o := .lst []) hG hp (lst_ownd _)
  have l1' := l1.left
  have hb : b ∈ A1 ++ (a :: (B1 ++ [b] ++ B3)) ++ A3 := by simp
  have hpa : ∀ e o, H1 e = some o → e ≠ p := fun e o h z => by rw [z, hp] at h; cases h
  obtain ⟨w1, w2, w3⟩ := own_write (o := .lst (vs ++ [y])) (A2 := a :: (B1 ++ [b] ++ B3)) (a := b) l1' (by simp) (lst_ownd _)
  rw [List.getElem?_map, Option.map_eq_some_iff] at g1
  obtain ⟨en, g1, g2⟩ := g1
  have hba : a ≠ b := fun z => by
    have nd := hG.nd
    rw [List.append_assoc, List.nodup_append] at nd
    have nd2 := (List.nodup_append.mp nd.2.1).1
    exact (List.nodup_cons.mp nd2).1 (by rw [z]; simp)
  have nb : ∀ e ∈ B1 ++ B3, e ≠ b := fun e he z => by
    have nd := hG.nd
    rw [List.append_assoc, List.nodup_append] at nd
    have nd2 := (List.nodup_cons.mp (List.nodup_append.mp nd.2.1).1).2
    rw [List.append_assoc, List.nodup_append] at nd2
    obtain ⟨n1, n2, n3⟩ := nd2
    rcases List.mem_append.mp he with he | he
    · exact n3 e he b (by simp) z
    · exact (List.nodup_cons.mp n2).1 (z ▸ he)
  refine ⟨c, en, b, vs, g1, g2, (by rw [upd_ne (hpa _ _ k1)]; exact k1), by rw [k2.length, ← big_eq]; exact hz, (by rw [upd_ne (hpa _ _ hc)]; exact hc), h3, h2, w1, ?_, fun e he => ?_, ?_⟩
  · exact (l2.mem (fun _ h => h) fun e he => .inl (List.mem_append_left _ he)).trans w2
  · rw [w3 e he, l3 e (by
      rcases List.mem_append.mp he with h | h
      · exact List.mem_append_left _ (List.mem_append_left _ h)
      · exact List.mem_append_right _ h)]
  · simp only [RM]
    refine ⟨a, c, B1 ++ [b] ++ B3, rfl, ?_, h2, h3, g4 F _ (.v (xs ++ [d])) [b] (Same.refl F) (fun e he => ?_) ?_, rfl⟩
    · rw [upd_ne hba, upd_ne (hpa _ _ hc)]
      exact hc
    · rw [upd_ne (nb e he)]
      exact l3 e (by
        rcases List.mem_append.mp he with h | h <;> simp [h])
    · simp only [RM]
      refine ⟨b, vs ++ [y], rfl, upd_same, k2.app ?_, rfl⟩
      simp only [RepDs]
      exact ⟨ry, trivial⟩
theorem sda_new {F H1 : Hp} {a p : Addr} {ks : List D} {ms : List M} {kk : Key} {kd : D} {A1 A2 A3 : List Addr} {y : V} {d : D} (hp : H1 p = none) (hG : GS F H1 (A1 ++ A2 ++ A3)) (hr : RM X.K X.w F H1 (.ref a) (.g ks ms) A2) (hk : atomKey kd = some kk) (hnew : ks.findIdx? (fun x => decide (keyOf x = keyOf kd)) = none) (ry : RepD X.K X.w F y d) :
    ∃ c, (upd H1 p (.lst [])) a = some (dctO a c) ∧ RepKy X.K X.w F c.en ks ∧ (ks.map keyOf).Nodup ∧ ∀ c' : Dc, c'.en = c.en ++ [⟨(nkOf kk).hash X.w, kV kk, .ref p⟩] →
      (upd (upd H1 p (.lst [])) a (dctO a c')) p = some (.lst []) ∧
      ∃ A2', GS F (upd (upd (upd H1 p (.lst [])) a (dctO a c')) p (.lst [y])) (A1 ++ A2' ++ A3) ∧ Stp (A1 ++ A2 ++ A3) F H1 (A1 ++ A2' ++ A3) F (upd (upd (upd H1 p (.lst [])) a (dctO a c')) p (.lst [y])) ∧
      (∀ e ∈ A1 ++ A3, upd (upd (upd H1 p (.lst [])) a (dctO a c')) p (.lst [y]) e = H1 e) ∧ RM X.K X.w F (upd (upd (upd H1 p (.lst [])) a (dctO a c')) p (.lst [y])) (.ref a) (.g (ks ++ [kd]) (ms ++ [.v [d]])) A2' := by
  simp only [RM] at hr
  obtain ⟨a', c, B, e1, hc, h2, h3, h4, rfl⟩ := hr
  cases e1
  have hpa : ∀ e o, H1 e = some o → e ≠ p := fun e o h z => by rw [z, hp] at h; cases h
  have hap : a ≠ p := hpa _ _ hc
  refine ⟨c, (by rw [upd_ne hap]; exact hc), h3, h2, fun c' hc' => ⟨by rw [upd_ne (Ne.symm hap), upd_same], a :: (B ++ [p]), ?_⟩⟩
  obtain ⟨l1, l2, l3⟩ := gs_lay (o := .lst []) hG hp (lst_ownd _)
  have l4 : GS F (upd H1 p (.lst [])) (A1 ++ (a :: (B ++ [p])) ++ A3) := l1.perm (by
    have : (A1 ++ (a :: B ++ [p]) ++ A3).Perm (A1 ++ (a :: B) ++ A3 ++ [p]) := perm_mid
    simpa using this)
  obtain ⟨w1, w2, w3⟩ := own_write (o := dctO a c') (a := a) l4 (by simp) (dct_ownd a c')
  obtain ⟨v1, v2, v3⟩ := own_write (o := .lst [y]) (a := p) w1 (by simp) (lst_ownd _)
  have nd := hG.nd
  rw [List.append_assoc, List.nodup_append] at nd
  obtain ⟨_, nd2, nd3⟩ := nd
  have nd4 := List.nodup_cons.mp (List.nodup_append.mp nd2).1
  have nA : ∀ e ∈ A1 ++ A3, e ≠ p := fun e he => by
    obtain ⟨o, ho, _⟩ := hG.own e (by
      rcases List.mem_append.mp he with h | h
      · exact List.mem_append_left _ (List.mem_append_left _ h)
      · exact List.mem_append_right _ h)
    exact hpa e o ho
  have nB : ∀ e ∈ B, e ≠ p := fun e he => by
    obtain ⟨o, ho, _⟩ := hG.own e (List.mem_append_left _ (List.mem_append_right _ (List.mem_cons_of_mem _ he)))
    exact hpa e o ho
  refine ⟨v1, ?_, fun e he => ?_, ?_⟩
  · refine (l2.mem (fun _ h => h) fun e he => ?_).trans (w2.trans v2)
    refine .inl ?_
    simp only [List.mem_append, List.mem_cons, List.not_mem_nil, or_false] at he ⊢
    rcases he with (he | he | he | he) | he
    · exact .inl (.inl (.inl he))
    · exact .inl (.inl (.inr (.inl he)))
    · exact .inl (.inl (.inr (.inr he)))
    · exact .inr he
    · exact .inl (.inr he)
  · rw [v3 e he, w3 e he, upd_ne (nA e he)]
  · simp only [RM]
    refine ⟨a, c', B ++ [p], rfl, ?_, ?_, ?_, ?_, rfl⟩
    · rw [upd_ne hap, upd_same]
    · rw [List.map_append, List.map_cons, List.map_nil]
      refine List.nodup_append.mpr ⟨h2, List.pairwise_singleton _ _, fun x hx z hz => ?_⟩
      rw [List.mem_singleton] at hz
      subst hz
      obtain ⟨q, hq, rfl⟩ := List.mem_map.mp hx
      exact of_decide_eq_false (List.findIdx?_eq_none_iff.mp hnew q hq)
    · rw [hc']
      have go : ∀ {ns : List En} {ks : List D}, RepKy X.K X.w F ns ks → RepKy X.K X.w F (ns ++ [⟨(nkOf kk).hash X.w, kV kk, .ref p⟩]) (ks ++ [kd]) := by
        intro ns
        induction ns with
        | nil =>
          intro ks h
          cases ks with
          | nil =>
            simp only [List.nil_append, RepKy]
            refine ⟨⟨⟨nkOf kk, atom_key hk, rfl⟩, ?_⟩, trivial⟩
            cases kd <;> simp [atomKey] at hk <;> subst hk <;> simp only [RepD] <;> rfl
          | cons _ _ => simp only [RepKy] at h
        | cons n ns ih =>
          intro ks h
          cases ks with
          | nil => simp only [RepKy] at h
          | cons k ks =>
            simp only [RepKy, List.cons_append] at h ⊢
            exact ⟨h.1, ih h.2⟩
      exact go h3
    · rw [hc', List.map_append]
      refine (h4.keep (Same.refl F) fun e he => ?_).app (B := [p]) ?_
      · have ha : e ≠ a := fun z => nd4.1 (by rw [← z]; exact he)
        rw [upd_ne (nB e he), upd_ne ha, upd_ne (nB e he)]
      · simp only [List.map_cons, List.map_nil, RMs, RM]
        refine ⟨[p], [], ⟨p, [y], rfl, upd_same, ?_, rfl⟩, rfl, rfl⟩
        simp only [RepDs]
        exact ⟨ry, trivial⟩
theorem isG_ty {F H : Hp} {u : V} {kk : M} {A : List Addr} (h : M.isG kk = true) (r : RM X.K X.w F H u kk A) : dTy u H := by
  cases kk with
  | g ks ms =>
    simp only [RM] at r
    obtain ⟨a, c, _, h1, h2, _⟩ := r
    exact ⟨a, c, h1, h2⟩
  | m kvs =>
    simp only [RM] at r
    obtain ⟨a, c, h1, h2, _⟩ := r
    exact ⟨a, c, h1, h2⟩
  | _ => cases h
theorem m_nil {F H : Hp} {u : V} {A : List Addr} (r : RM X.K X.w F H u (.m []) A) : RM X.K X.w F H u (.g [] []) A := by
  simp only [RM] at r ⊢
  obtain ⟨a, c, h1, h2, h3, h4, h5⟩ := r
  cases hc : c.en with
  | nil => exact ⟨a, c, [], h1, h2, List.nodup_nil, by rw [hc]; trivial, by rw [hc]; simp only [List.map_nil, RMs], h5⟩
  | cons n ns => rw [hc] at h4; simp only [RepKs] at h4
def lTy (x : V) (H : Hp) : Prop := ∃ a vs, x = .ref a ∧ H a = some (.lst vs)
theorem mt_append' : MtR X "list.append" rAppend := fun pins s σ H x xs v us Q I r rs h => mt_append pins s σ H x xs v us Q I r rs h
theorem se_sda {kr : Nat} (hr : Room kr X.A) {sc : Scope} {i j : Nat} {x f g z : Str} {b : Expr} {p p2 ap ap2 cp cp2 lp : Pos} {pa : Bool} {fa : EvF} (hs : X.env.scope = sc) (hf : f = "setdefault") (hg : g = "append") (h : isNm X.N sc i x = true) (h' : isNm X.N sc j z = true) (hl : (ap.endLine == cp.line) = true) (hl2 : (ap2.endLine == cp2.line) = true) (ok : okE b = true) (hpa : pa = true) (ha : SE X W pa b fa) :
    SE X W false (.Call (.Attribute (.Call (.Attribute (.Name x p) f ap) [b, .List [] lp] [] cp) g ap2) [.Name z p2] [] cp2) (sdaE i j fa) := by
  subst hs hf hg hpa
  obtain ⟨h1, h2, h3, h4⟩ := vis_of h
  obtain ⟨k1, k2, k3, k4⟩ := vis_of h'
  have P1 := pe_meth2 (X := X) (Ty := dTy) (o := .Name x p) (e := b) (f := .List [] lp) (name := "setdefault") (apos := ap) (cpos := cp) PySem.F.plainAttrs_dict PySem.F.slot_dict_setdefault PySem.F.type_dict_setdefault mt_sdef (fun pins σ H s x v I r h => dTy_is I r h) (pe_var h1 h2 h3 h4) ha (pe_lst pa_nil) rfl ok rfl hl
  refine pe_imp (pe_meth (Ty := lTy) (e := .Name z p2) PySem.F.plainAttrs_list PySem.F.slot_list_append PySem.F.type_list_append mt_append' (fun pins σ H s x v I r ⟨a, vs, e, h⟩ => ?_) P1 (pe_var k1 k2 k3 k4) rfl rfl hl2) fun σ H Q q => ?_
  · subst e
    exact tyV_is (x := .ref a) I r (.inl ⟨rfl, vs, SqL.of h⟩)
  obtain ⟨u, g1, ⟨kk, F, A, ek, sm, rk⟩, q⟩ := tE_atF q
  refine ⟨u, g1, isG_ty ek rk, ?_⟩
  have q' : tE X.K X.w X.mg W (true && false) (intB fa (sdaG i j)) σ H Q := by rw [Bool.and_false]; exact q
  refine tE_mono (tE_intB q') fun y H1 ⟨kd, ez, q⟩ => ?_
  subst ez
  refine ⟨by show 0 ≤ _; exact Nat.zero_le _, fun lp hlp => ?_⟩
  obtain ⟨m, F, A, hR, hG, q⟩ := q
  unfold sdaG at q
  cases em : m[i]? with
  | none => rw [em] at q; exact q.elim
  | some o => cases o with
    | none => rw [em] at q; exact q.elim
    | some k =>
      cases en : m[j]? with
      | none => rw [em, en] at q; exact q.elim
      | some o => cases o with
        | none => rw [em, en] at q; exact q.elim
        | some k2 => cases k2 with
          | d dd =>
            rw [em, en] at q
            simp only at q
            cases es : sdaTo k (.int kd) dd with
            | none => rw [es] at q; exact q.elim
            | some k' =>
              rw [es] at q
              simp only at q
              obtain ⟨u2, A1, A2, A3, y1, rfl, y3, y4, _⟩ := hR.at em
              rw [g1] at y1
              cases y1
              obtain ⟨uy, B1, B2, B3, z1, _, z3, _, _⟩ := hR.at en
              simp only [RM] at z3
              obtain ⟨z3, _⟩ := z3
              have fin : ∀ (H' : Hp) (A2' : List Addr), GS F H' (A1 ++ A2' ++ A3) → Stp (A1 ++ A2 ++ A3) F H1 (A1 ++ A2' ++ A3) F H' → (∀ e ∈ A1 ++ A3, H' e = H1 e) → RM X.K X.w F H' u k' A2' → Q .non H' := fun H' A2' w1 w2 w3 w4 => by
                have hRS := y4 F H' u k' A2' (Same.refl F) w3 w4
                rw [set_same g1] at hRS
                exact q .non H' (ev_none hRS w1 w2)
              have gcase : ∀ (ks : List D) (ms : List M), RM X.K X.w F H1 u (.g ks ms) A2 → atomsK ks = true → ks.length < big →
                  ((∃ n xs, ks.findIdx? (fun x => decide (keyOf x = keyOf (.int kd))) = some n ∧ ms[n]? = some (.v xs) ∧ xs.length < big ∧ k' = .g ks (ms.set n (.v (xs ++ [dd])))) ∨
                    (ks.findIdx? (fun x => decide (keyOf x = keyOf (.int kd))) = none ∧ k' = .g (ks ++ [.int kd]) (ms ++ [.v [dd]]))) →
                  rSdef X u [.int kd, .ref lp] (upd H1 lp (.lst [])) fun v H3 => lTy v H3 ∧ ∃ uy, σ[j]? = some (some uy) ∧ rAppend v [uy] H3 Q := fun ks ms hrm hat hlen hcase => by
                obtain ⟨a, c0, e0⟩ : ∃ a c, u = .ref a ∧ H1 a = some (dctO a c) := isG_ty (kk := .g ks ms) rfl hrm
                obtain ⟨rfl, _⟩ := e0
                rcases hcase with ⟨n, xs, hn, hm, hz, rfl⟩ | ⟨hn, rfl⟩
                · obtain ⟨c, en, b', vs, v1, v2, v3, v4, v5, v6, v7, v8, v9, v10, v11⟩ := sda_old hlp hG hrm hm hz z3
                  refine ⟨F, a, c, ks, .int kd, .inl kd, lp, rfl, rfl, hG.sub.trans (same_new hlp), v5, v7, v6, hat, rfl, by rw [← big_eq]; exact hlen, fun n' en' hn' he' => ?_, fun hn' => ?_⟩
                  · rw [hn] at hn'
                    cases hn'
                    rw [v1] at he'
                    cases he'
                    rw [v2]
                    exact ⟨⟨b', vs, rfl, v3⟩, uy, z1, b', vs, uy, rfl, rfl, v3, v4, fin _ _ v8 v9 v10 v11⟩
                  · rw [hn] at hn'
                    cases hn'
                · obtain ⟨c, v1, v2, v3, v4⟩ := sda_new (kk := .inl kd) hlp hG hrm rfl hn z3
                  refine ⟨F, a, c, ks, .int kd, .inl kd, lp, rfl, rfl, hG.sub.trans (same_new hlp), v1, v3, v2, hat, rfl, by rw [← big_eq]; exact hlen, fun n' en' hn' he' => ?_, fun _ c' hc' => ?_⟩
                  · rw [hn] at hn'
                    cases hn'
                  · obtain ⟨w0, A2', w1, w2, w3, w4⟩ := v4 c' hc'
                    exact ⟨⟨lp, [], rfl, w0⟩, uy, z1, lp, [], uy, rfl, rfl, w0, by show 0 < sizeLine; rw [← big_eq]; decide, fin _ _ w1 w2 w3 w4⟩
              unfold sdaTo at es
              split at es
              · cases es
                exact gcase [] [] (m_nil y3) rfl (by decide) (.inr ⟨rfl, rfl⟩)
              · rename_i ks ms
                split at es
                · rename_i hc
                  rw [Bool.and_eq_true, decide_eq_true_eq] at hc
                  split at es
                  · rename_i n hn
                    split at es
                    · rename_i xs hm
                      split at es
                      · rename_i hz
                        cases es
                        exact gcase ks ms y3 hc.1 hc.2 (.inl ⟨n, xs, hn, hm, hz, rfl⟩)
                      · cases es
                    · cases es
                  · rename_i hn
                    cases es
                    exact gcase ks ms y3 hc.1 hc.2 (.inr ⟨hn, rfl⟩)
                · cases es
              · cases es
          | _ => rw [em, en] at q; exact q.elim
end
end Oa

/-! Part 28: the small language is what the text does: statements. -/
namespace Oa
open PySem PySem.Spec PyProof.Rows L2
theorem ps_imp {X : Cx} {e : Stmt} {t t' : TS} (h : PS X e t) (i : ∀ E σ H, t' E σ H → t E σ H) : PS X e t' := ⟨fun pins s σ H E I q => h.run pins s σ H E I (i E σ H q)⟩
theorem pss_imp {X : Cx} {e : List Stmt} {t t' : TS} (h : PSs X e t) (i : ∀ E σ H, t' E σ H → t E σ H) : PSs X e t' := ⟨fun pins s σ H E I q => h.run pins s σ H E I (i E σ H q)⟩
structure SCtx (X : Cx) (k : Nat) (fs : List (Str × Nat)) (cf : CfT) (cs : Str → Option D) (W : WX) : Prop where
  c : Ctx X k fs cf cs W
  kind : X.env.scope.kind = .function
  po : PassesOwn (model X.prog X.w) X.A X.env X.xe
  fnc : ∀ x, X.env.scope.names.lookup x = some .cell → X.fn x = true
  stk : X.stack = X.env :: X.outer
  frm : X.env.frame = some X.env.locals
section
variable {k : Nat} {fs : List (Str × Nat)} {cf : CfT} {cs : Str → Option D} {as : List Nat} {fu : Nat}
theorem SCtx.pg {X : Cx} {W : WX} {sc : Scope} {t : Tg} {tg : Expr} (C : SCtx X k fs cf cs W) (hs : X.env.scope = sc) (h : Tg.chk X.N true sc t tg = true) : PG X tg (gT X.K X.w t) := by
  subst hs
  exact pg_T (sc := X.env.scope) (fn := true) C.c.calm C.c.nd (fun _ _ _ e => e) (fun _ x e => C.fnc x e) h
theorem sw_plain {v : Expr} {t : Option Expr} {l : Nat} {env : Env} (h : isComp v = false) : swapsWith v t l env = pure false := by
  cases v <;> first | rfl | cases h
theorem sw_lc {elt : Expr} {gs : List Comprehension} {scope : Scope} {pos py : Pos} {y : Str} {l : Nat} {env : Env} : swapsWith (.ListComp elt gs scope pos) (some (.Name y py)) l env = pure (env.blockKind == .function && env.kindOf y == some .local && py.line == pos.line && !(scope.names.any fun (n, k) => n == y && (k == .local || k == .cell))) := rfl
theorem st_drop {X : Cx} {W : WX} {x : Expr} {pos : Pos} {pe : Bool} {fe : EvF} (h : SE X W pe x fe) (hs : swapsWith x none pos.line X.env = pure false) : PS X (.Expr x pos) (tSt X.K X.w X.mg W pe as (dropF fe)) :=
  ps_imp (ps_expr h hs) fun E σ H q => drop_read q
theorem loc_of {X : Cx} {W : WX} {sc : Scope} {i : Nat} {y : Str} (C : SCtx X k fs cf cs W) (hs : X.env.scope = sc) (h : isSt X.N true sc i y = true) : X.N[i]? = some y ∧ Loc X.env.scope y ∧ (X.fn y = true ∨ X.env.scope.names.lookup y = some .local) := by
  subst hs
  obtain ⟨h1, h2⟩ := isSt_of h
  rcases h2 with e | ⟨e, _⟩
  · exact ⟨h1, .inl e, .inr e⟩
  · exact ⟨h1, .inr e, .inl (C.fnc _ e)⟩
theorem st_set {X : Cx} {W : WX} {sc : Scope} {i : Nat} {y : Str} {v : Expr} {e : Ex} {py pos : Pos} (C : SCtx X k fs cf cs W) (hs : X.env.scope = sc) (h1 : isSt X.N true sc i y = true) (h2 : i ∈ as) (h3 : (!isComp v || isLC v) = true) (h4 : Ex.chk X.N fs sc e v = true) :
    PS X (.Assign [.Name y py] v pos) (tSt X.K X.w X.mg W e.pu as (setF i (e.ev cf cs))) := by
  obtain ⟨g1, g2, g3⟩ := loc_of C hs h1
  have so := Ex.sound e C.c hs h4
  cases hv : isComp v with
  | false => exact ps_imp (ps_set C.c.nd g1 g2 so.se (sw_plain hv) g3) fun E σ H q => set_read h2 q
  | true =>
    rw [hv] at h3
    cases v with
    | ListComp elt gs scope p2 =>
      cases hb : (X.env.blockKind == .function && X.env.kindOf y == some .local && py.line == p2.line && !(scope.names.any fun (n, k) => n == y && (k == .local || k == .cell))) with
      | false => exact ps_imp (ps_set C.c.nd g1 g2 so.se (by rw [sw_lc, hb]) g3) fun E σ H q => set_read h2 q
      | true =>
        cases e with
        | comp own elt0 t it cd =>
          have h5 : (match (generalizing := false) (Expr.ListComp elt gs scope p2) with
            | .ListComp e [⟨tg, iter, ifs, 0⟩] scope _ => Itx.chk X.N fs sc it iter && Tg.chk X.N true scope t tg && Ex.chk X.N fs (relS scope sc) elt0 e && Exs.chk X.N fs (relS scope sc) cd ifs && cd.tst1 && (!it.needT || isTupE tg) && blkC X.N sc scope (ownOf t tg) && decide ((ownOf t tg).map (·.2) = t.slots) && okE iter
            | _ => false) = true := h4
          split at h5
          · rename_i e0 tg iter ifs scope0 p0 heq
            cases heq
            simp only [Bool.and_eq_true, decide_eq_true_eq] at h5
            obtain ⟨⟨⟨⟨⟨⟨⟨⟨e1, e2⟩, e3⟩, e4⟩, e5⟩, e6⟩, e7⟩, e8⟩, e9⟩ := h5
            have hk : X.env.kindOf y = some .local := by
              simp only [Bool.and_eq_true, beq_iff_eq] at hb
              exact hb.1.1.2
            subst hs
            refine ps_imp (ps_setLc (te := tE X.K X.w X.mg W0 elt0.pu (elt0.ev cf cs)) (tt := tCond X.K X.w cd.pu (cd.evc cf cs)) C.c.calm C.c.nd g1 hk (by rw [sw_lc, hb]) (Itx.sound it (pe := elt0.pu && cd.pu) C.c rfl e1 e6) (blkOk_by e7) (pg_blk C.c.calm C.c.nd e2) (fun s H c cl fp => ?_) (fun s H c cl fp => (Ex.sound elt0 (ctx_blk C.c s H _ c cl fp) rfl e3).se) (no_fold e9)) fun E σ H q => ?_
            · exact Exs.sound1 cd (ctx_blk C.c s H _ c cl fp) rfl e5 e4
            · have q2 := set_read h2 q
              rw [e8]
              exact lc_read q2
          · cases h5
        | _ => exact absurd h4 Bool.false_ne_true
    | _ => exact absurd h3 Bool.false_ne_true
theorem sw_sole {v : Expr} {es : List Expr} {kk : Nat} {tp : Pos} {l : Nat} {env : Env} : swapsWithSole [.Tuple es kk tp] v l env = pure false := by
  cases v <;> rfl
theorem sw_sub {v a b : Expr} {tp : Pos} {l : Nat} {env : Env} : swapsWithSole [.Subscript a b tp] v l env = pure false := by
  cases v <;> rfl
theorem st_setT {X : Cx} {W : WX} {sc : Scope} {t : Tg} {es : List Expr} {kk : Nat} {v : Expr} {e : Ex} {tp pos : Pos} (C : SCtx X k fs cf cs W) (hs : X.env.scope = sc) (h1 : Tg.chks X.N true sc t.subs es = true) (h2 : t.isT = true) (h3 : t.slots.all (fun i => decide (i ∈ as)) = true)
    (h4 : (!isTupE v) = true) (h5 : Ex.chk X.N fs sc e v = true) : PS X (.Assign [.Tuple es kk tp] v pos) (tSt X.K X.w X.mg W e.pu as (setTF t (e.ev cf cs))) := by
  have so := Ex.sound e C.c hs h5
  cases t with
  | n i => exact absurd h2 Bool.false_ne_true
  | t ts =>
    have pg : PG X (.Tuple es kk tp) (gT X.K X.w (.t ts)) := C.pg hs (by simp only [Tg.chk]; exact h1)
    refine ps_imp (ps_asg so.se pg sw_sole ?_ rfl) fun E σ H q => setT_read (fun i hi => by simpa using List.all_eq_true.mp h3 i hi) q
    cases v <;> first | rfl | exact absurd h4 Bool.false_ne_true
theorem st_aug {X : Cx} {W : WX} {sc : Scope} {i : Nat} {y : Str} {p : P2} {op : Operator} {v : Expr} {e : Ex} {py pos : Pos} (C : SCtx X k fs cf cs W) (hs : X.env.scope = sc) (h1 : isSt X.N true sc i y = true) (h2 : i ∈ as) (h3 : augOk p op = true) (h4 : Ex.chk X.N fs sc e v = true) :
    PS X (.AugAssign (.Name y py) op v pos) (tSt X.K X.w X.mg W e.pu as (augF i p (e.ev cf cs))) := by
  obtain ⟨g1, g2, g3⟩ := loc_of C hs h1
  have so := Ex.sound e C.c hs h4
  have ho : PIp X op (ipA p) := by
    match p, op, h3 with
    | .add, .Add, _ => exact fun pins s σ H x y v u Q I r1 r2 ⟨a, b, c, e1, e2, e3, q⟩ => ip_add pins s σ H x y v u Q I r1 r2 ⟨a, b, e1, e2, by cases e3; exact q⟩
    | .sub, .Sub, _ => exact fun pins s σ H x y v u Q I r1 r2 ⟨a, b, c, e1, e2, e3, q⟩ => ip_sub pins s σ H x y v u Q I r1 r2 ⟨a, b, e1, e2, by cases e3; exact q⟩
  exact ps_imp (ps_aug C.c.nd g1 g2 so.se ho g3) fun E σ H q => aug_read h2 q
theorem st_setI {X : Cx} {W : WX} {sc : Scope} {i : Nat} {y : Str} {b v : Expr} {a e : Ex} {p sp pos : Pos} (C : SCtx X k fs cf cs W) (hs : X.env.scope = sc) (h1 : isNm X.N sc i y = true) (h2 : Ex.chk X.N fs sc a b = true) (h3 : Ex.chk X.N fs sc e v = true) :
    PS X (.Assign [.Subscript (.Name y p) b sp] v pos) (tSt X.K X.w X.mg W false as (setIF i a.pu (e.ev cf cs) (a.ev cf cs))) := by
  have sa := Ex.sound a C.c hs h2
  have se := Ex.sound e C.c hs h3
  have ok := chk_ok h2
  subst hs
  obtain ⟨g1, g2, g3, g4⟩ := vis_of h1
  refine ps_imp (ps_asg se.se (pg_sub (pe_var g1 g2 g3 g4) sa.se set_list ?_) sw_sub rfl rfl) fun E σ H q => tE_mono (setI_read (pe := e.pu) q) fun x H1 q => q
  intro u
  cases b <;> first | rfl | cases ok
theorem st_putD {X : Cx} {W : WX} {sc : Scope} {i : Nat} {y : Str} {b v : Expr} {a e : Ex} {p sp pos : Pos} (C : SCtx X k fs cf cs W) (hs : X.env.scope = sc) (h1 : isNm X.N sc i y = true) (h2 : Ex.chk X.N fs sc a b = true) (h3 : Ex.chk X.N fs sc e v = true) :
    PS X (.Assign [.Subscript (.Name y p) b sp] v pos) (tSt X.K X.w X.mg W false as (putDF i a.pu (e.ev cf cs) (a.ev cf cs))) := by
  have sa := Ex.sound a C.c hs h2
  have se := Ex.sound e C.c hs h3
  have ok := chk_ok h2
  subst hs
  obtain ⟨g1, g2, g3, g4⟩ := vis_of h1
  refine ps_imp (ps_asg se.se (pg_sub (pe_var g1 g2 g3 g4) sa.se (set_dct C.c.room) ?_) sw_sub rfl rfl) fun E σ H q => tE_mono (dput_read (pe := e.pu) q) fun x H1 q => q
  intro u
  cases b <;> first | rfl | cases ok
theorem st_par {X : Cx} {W : WX} {sc : Scope} {i j : Nat} {y z : Str} {u v : Expr} {a b : Ex} {py pz pt pt2 pos : Pos} {kk kk2 : Nat} (C : SCtx X k fs cf cs W) (hs : X.env.scope = sc) (h1 : X.N[i]? = some y) (h2 : X.N[j]? = some z) (h3 : i ∈ as) (h4 : j ∈ as) (h5 : (!(i == j)) = true) (h6 : parOk sc y z py pz u v = true) (h7 : Ex.chk X.N fs sc a u = true) (h8 : Ex.chk X.N fs sc b v = true) :
    PS X (.Assign [.Tuple [.Name y py, .Name z pz] kk pt] (.Tuple [u, v] kk2 pt2) pos) (tSt X.K X.w X.mg W (a.pu && b.pu) as (parF i j (evsCons b.pu (a.ev cf cs) (evsCons true (b.ev cf cs) evsNil)))) := by
  have sa := Ex.sound a C.c hs h7
  have sb := Ex.sound b C.c hs h8
  subst hs
  unfold parOk at h6
  simp only [Bool.and_eq_true, decide_eq_true_eq, Bool.not_eq_true', beq_eq_false_iff_ne] at h6
  obtain ⟨⟨⟨⟨⟨⟨⟨e1, e2⟩, e3⟩, e4⟩, e5⟩, e6⟩, e7⟩, e8⟩ := h6
  have hij : i ≠ j := by simpa using h5
  refine ps_imp (ps_par C.c.calm C.c.nd h1 h2 hij e1 e2 (pa_cons sa.se (pa_cons sb.se pa_nil (star_ok e6)) (star_ok e5)) ?_ rfl) fun E σ H q => tE_mono (par_read h3 h4 q) fun x H1 q => tE_mono q fun y H2 q => ⟨x, y, rfl, q⟩
  have ky : X.env.kindOf y = some .local := e1
  have kz : X.env.kindOf z = some .local := e2
  have kb : X.env.blockKind = .function := by unfold Env.blockKind; rw [C.kind]; rfl
  have el : (pz.line == py.line) = true := by
    rw [beq_iff_eq] at e3 ⊢
    exact e3.symm
  have ed : [y, z].eraseDups = [y, z] := by
    have : (z == y) = false := beq_eq_false_iff_ne.mpr fun q => e4 q.symm
    simp [List.eraseDups_cons, this]
  unfold swappedStores
  simp only [List.any_cons, List.any_nil, kb, ky, kz, List.filterMap_cons, List.filterMap_nil, Expr.pos, List.head?_cons, Option.map_some, Option.getD_some, el, e7, e8, ed]
  simp
  rw [if_neg fun h => ?_]
  · simp [ed]
  · rcases h with h | h
    · cases u <;> first | exact absurd h Bool.false_ne_true | cases e5
    · cases v <;> first | exact absurd h Bool.false_ne_true | cases e6
theorem st_rev {X : Cx} {W : WX} {sc : Scope} {i : Nat} {y f : Str} {p ap cp pos : Pos} (C : SCtx X k fs cf cs W) (hs : X.env.scope = sc) (hf : f = "reverse") (h1 : isNm X.N sc i y = true) (hl : (ap.endLine == cp.line) = true) :
    PS X (.Expr (.Call (.Attribute (.Name y p) f ap) [] [] cp) pos) (tSt X.K X.w X.mg W false as ((St.rev i).run cf cs fu)) := by
  subst hs hf
  obtain ⟨g1, g2, g3, g4⟩ := vis_of h1
  refine ps_imp (ps_expr (pe_bm0 (r := rReverse) F.plainAttrs_list F.slot_list_reverse F.type_list_reverse mt_reverse (pe_var g1 g2 g3 g4) rfl hl) rfl) fun E σ H q => ?_
  obtain ⟨m, F, A, hR, hG, q⟩ := q
  have q2 : ResP X.K X.w X.mg W false as F H A σ E (match m[i]? with
    | some (some (.v xs)) => .ok (.nx (m.set i (some (.v xs.reverse))))
    | _ => .bad) := q
  split at q2
  · rename_i xs em
    obtain ⟨a, vs, e1, e2, e3, e4⟩ := ev_rewrite (ys := xs.reverse) (d := .none) hR hG em
    obtain ⟨F', A', T, k1, k2, k3, _, _⟩ := e4 vs.reverse .non e3.rev (by simp only [RepD])
    exact ⟨_, e1, .inl ⟨rfl, vs, SqL.of e2⟩, a, vs, rfl, rfl, e2, q2 σ _ ⟨F', A', k1, k2.left, k3.mem (fun _ h => h) (fun a ha => .inl (List.mem_append_left _ ha)), Agree.refl _ _, fun e => by cases e⟩⟩
  · exact q2.elim
theorem ints_rep {K : PySem.W.Frag} {w : World} {F : Hp} : ∀ {ns : List Int} {vs : List V}, RepDs K w F vs (ns.map .int) → vs = ns.map V.int
  | [], [], _ => rfl
  | [], _ :: _, h => by simp only [List.map_nil, RepDs] at h
  | _ :: _, [], h => by simp only [List.map_cons, RepDs] at h
  | n :: ns, x :: vs, h => by
    simp only [List.map_cons, RepDs, RepD] at h
    rw [h.1, ints_rep h.2]
    rfl
theorem intsOf_eq : ∀ {xs : List D} {ns : List Int}, P.intsOf xs = some ns → xs = ns.map .int
  | [], ns, h => by
    simp only [P.intsOf, Option.some.injEq] at h
    rw [← h]
    rfl
  | .int i :: r, ns, h => by
    simp only [P.intsOf, Option.map_eq_some_iff] at h
    obtain ⟨ms, h1, rfl⟩ := h
    rw [intsOf_eq h1]
    rfl
  | .none :: _, _, h => by simp [P.intsOf] at h
  | .bool _ :: _, _, h => by simp [P.intsOf] at h
  | .str _ :: _, _, h => by simp [P.intsOf] at h
  | .list _ :: _, _, h => by simp [P.intsOf] at h
  | .tuple _ :: _, _, h => by simp [P.intsOf] at h
  | .dict _ :: _, _, h => by simp [P.intsOf] at h
theorem idx_first {ns : List Int} {j : Int} (h : j ∈ ns) : ns[ns.idxOf j]? = some j ∧ ∀ m : Nat, m < ns.idxOf j → ns[m]? ≠ some j := by
  have hl : ns.idxOf j < ns.length := List.idxOf_lt_length_iff.mpr h
  refine ⟨by rw [List.getElem?_eq_getElem hl, List.getElem_idxOf], fun m hm e => ?_⟩
  have q := List.not_of_lt_findIdx (p := (· == j)) (xs := ns) (i := m) hm
  obtain ⟨h1, h2⟩ := List.getElem?_eq_some_iff.mp e
  rw [h2] at q
  simp at q
theorem se_rem {X : Cx} {W : WX} {sc : Scope} {i : Nat} {y f : Str} {e : Expr} {p ap cp : Pos} {pe : Bool} {fe : EvF} (hs : X.env.scope = sc) (hf : f = "remove") (h : isNm X.N sc i y = true) (hl : (ap.endLine == cp.line) = true) (ok : okE e = true) (he : SE X W pe e fe) : SE X W false (.Call (.Attribute (.Name y p) f ap) [e] [] cp) (upF i remTo fe) := by
  subst hs hf
  obtain ⟨h1, h2, h3, h4⟩ := vis_of h
  refine pe_imp (pe_bm (r := rRemI) F.plainAttrs_list F.slot_list_remove F.type_list_remove mt_remove (pe_var h1 h2 h3 h4) (pa_cons he pa_nil (star_ok ok)) rfl (by rw [star_ok ok]; rfl) hl (star_ok ok) rfl) fun σ H Q q => ?_
  obtain ⟨u, g1, ⟨kk, F, A, ek, sm, rk⟩, q⟩ := tE_atF q
  obtain ⟨a, vs, rfl, g2⟩ := isLst_at ek rk
  refine ⟨_, g1, .inl ⟨rfl, vs, SqL.of g2⟩, tE_mono (tE_up (pe := pe) q) fun y H1 q => ?_⟩
  obtain ⟨F1, m1, A1, T, r, kk, k', hR, hG, hr, em, eg, _, q⟩ := q
  obtain ⟨u', B1, B2, B3, z1, rfl, z2, z3⟩ := wrk_slot (T := T) hR em
  rw [g1] at z1
  cases z1
  unfold remTo at eg
  split at eg
  · rename_i xs j ei
    split at eg
    · rename_i ns en
      split at eg
      · rename_i hz
        cases eg
        have ex := intsOf_eq en
        subst ex
        have := hr.int ei
        subst this
        simp only [RM] at z2
        obtain ⟨a', vs', e2, l3, l4, rfl⟩ := z2
        cases e2
        have ev := ints_rep l4
        subst ev
        have hrep : RepDs X.K X.w F1 ((ns.eraseIdx (ns.idxOf j)).map V.int) ((ns.eraseIdx (ns.idxOf j)).map .int) := by
          generalize ns.eraseIdx (ns.idxOf j) = l
          induction l with
          | nil => simp only [List.map_nil, RepDs]
          | cons n l ih => simp only [List.map_cons, RepDs, RepD]; exact ⟨trivial, ih⟩
        obtain ⟨a', vs2, e2, l5, l6, wk⟩ := wrk_v (u := .ref a) (ys := (ns.eraseIdx (ns.idxOf j)).map .int) (show RM X.K X.w F1 H1 (.ref a) (.v (ns.map .int)) [a] by simp only [RM]; exact ⟨a, _, rfl, l3, l4, rfl⟩) hG hrep
        cases e2
        obtain ⟨n1, n2⟩ := idx_first hz
        exact ⟨a, ns, j, ns.idxOf j, rfl, rfl, l3, n1, n2, q _ _ _ (z3 wk) wk.gs wk.st⟩
      · cases eg
    · cases eg
  · cases eg
theorem aug_op {X : Cx} {p : P2} {op : Operator} (h3 : augOk p op = true) : PIp X op (ipA p) := by
  match p, op, h3 with
  | .add, .Add, _ => exact fun pins s σ H x y v u Q I r1 r2 ⟨a, b, c, e1, e2, e3, q⟩ => ip_add pins s σ H x y v u Q I r1 r2 ⟨a, b, e1, e2, by cases e3; exact q⟩
  | .sub, .Sub, _ => exact fun pins s σ H x y v u Q I r1 r2 ⟨a, b, c, e1, e2, e3, q⟩ => ip_sub pins s σ H x y v u Q I r1 r2 ⟨a, b, e1, e2, by cases e3; exact q⟩
theorem st_augI {X : Cx} {W : WX} {sc : Scope} {i : Nat} {y : Str} {p : P2} {op : Operator} {b v : Expr} {a e : Ex} {py sp pos : Pos} (C : SCtx X k fs cf cs W) (hs : X.env.scope = sc) (h1 : isNm X.N sc i y = true) (h2 : augOk p op = true) (h3 : Ex.chk X.N fs sc a b = true) (h4 : Ex.chk X.N fs sc e v = true) :
    PS X (.AugAssign (.Subscript (.Name y py) b sp) op v pos) (tSt X.K X.w X.mg W false as (augAtF i p (a.ev cf cs) (e.ev cf cs))) := by
  have sa := Ex.sound a C.c hs h3
  have se := Ex.sound e C.c hs h4
  have ok := chk_ok h3
  subst hs
  obtain ⟨g1, g2, g3, g4⟩ := vis_of h1
  refine ps_imp (ps_augS (pe_var g1 g2 g3 g4) sa.se get_list se.se (aug_op h2) set_list ?_) fun E σ H q => augAt_read q
  intro ov iv new
  cases b <;> first | rfl | cases ok
theorem st_rai {X : Cx} {W : WX} {sc : Scope} {c : Str} {p cp pos : Pos} (C : SCtx X k fs cf cs W) (hs : X.env.scope = sc) (h1 : isGl sc c = true) (h2 : fs.lookup c = some 100) :
    PS X (.Raise (some (.Call (.Name c p) [] [] cp)) none pos) (tSt X.K X.w X.mg W true as (fun _ => .er c none)) := by
  obtain ⟨g1, g2, _⟩ := gl_of hs h1
  obtain ⟨Cc, e1, e2, e3, e4, e5⟩ := C.c.er c h2
  refine ps_imp (ps_raise C.c.calm C.c.tk (pmk_own0 PySem.F.excBase_ValueError e2 e1 e3 (raises_own e4 e5) g1 g2)) fun E σ H q => ?_
  obtain ⟨m, F, A, hR, hG, q⟩ := q
  exact q (.ref Cc) none σ H (Agree.refl _ _) ⟨⟨Cc, e1, rfl⟩, fun _ _ h _ => h, rfl⟩
theorem hds_ok {X : Cx} {W : WX} {sc : Scope} {kn : List Str} (C : SCtx X k fs cf cs W) (hs : X.env.scope = sc) (hk : ∀ c ∈ kn, fs.lookup c = some 100) : ∀ {l : List (Str × Nat × Atm)} {hds : List ExceptHandler}, hdsChk X.N as sc kn l hds = true → HdsOk X hds (hdl X.mg l) ∧ (∀ q ∈ l, q.1 ∈ kn) ∧ (∀ q ∈ l, q.2.1 ∈ as)
  | [], [], _ => ⟨.nil, fun _ h => (by cases h), fun _ h => (by cases h)⟩
  | [], _ :: _, h => (by cases h)
  | _ :: _, [], h => (by cases h)
  | q :: l, x :: hds, h => by
    unfold hdsChk at h
    rw [Bool.and_eq_true] at h
    obtain ⟨h0, h⟩ := h
    obtain ⟨r1, r2, r3⟩ := hds_ok C hs hk h
    unfold hdChk at h0
    split at h0
    · rename_i y np z zp v ap hp
      simp only [Bool.and_eq_true, decide_eq_true_eq] at h0
      obtain ⟨⟨⟨⟨⟨rfl, e2⟩, e3⟩, e4⟩, e5⟩, e6⟩ := h0
      obtain ⟨g1, g2, _⟩ := gl_of hs e2
      obtain ⟨Cc, c1, _⟩ := C.c.er _ (hk _ e3)
      obtain ⟨l1, l2, l3⟩ := loc_of C hs e4
      refine ⟨?_, fun z hz => ?_, fun z hz => ?_⟩
      · refine .cons (c := (X.mg q.1).getD .none) ⟨g1, g2, .inl (by rw [c1]; rfl)⟩ (fun a oe cls d pn hz hd => pss_one (ps_set (X := X.suite a ((a, oe) :: pn)) C.c.nd l1 l2 (atm_pe e6) (sw_plain (by cases v <;> first | rfl | exact absurd e6 (by cases q.2.2 <;> exact Bool.false_ne_true))) l3)) r1
      · rcases List.mem_cons.mp hz with rfl | hz
        · exact e3
        · exact r2 z hz
      · rcases List.mem_cons.mp hz with rfl | hz
        · exact e5
        · exact r3 z hz
    · cases h0
theorem SCtx.try_ {X : Cx} {W W' : WX} (C : SCtx X k fs cf cs W) {pn : List (Addr × Obj)} {xe : Value → Shared → Prop} (tk : Takes (X.tr pn xe) W') (po : PassesOwn (model X.prog X.w) X.A X.env xe) : SCtx (X.tr pn xe) k fs cf cs W' :=
  ⟨⟨C.c.calm, C.c.room, C.c.nd, C.c.bi, C.c.fn, C.c.cst, C.c.er, C.c.em, tk⟩, C.kind, po, C.fnc, C.stk, C.frm⟩
mutual
theorem St.sound : ∀ (s : St) {as : List Nat} {X : Cx} {W : WX} {sc : Scope} {x : Stmt}, SCtx X k fs cf cs W → X.env.scope = sc → St.chk X.N fs as sc s x = true → PS X x (tSt X.K X.w X.mg W s.pu as (s.run cf cs fu))
  | .set i e, as, X, W, sc, x, C, hs, h => by
    have h2 : (match (generalizing := false) x with
      | .Assign [.Name y _] v _ => isSt X.N true sc i y && decide (i ∈ as) && (!isComp v || isLC v) && Ex.chk X.N fs sc e v
      | _ => false) = true := h
    clear h
    split at h2
    · simp only [Bool.and_eq_true, decide_eq_true_eq] at h2
      obtain ⟨⟨⟨e1, e2⟩, e3⟩, e4⟩ := h2
      exact st_set C hs e1 e2 e3 e4
    · cases h2
  | .setT t e, as, X, W, sc, x, C, hs, h => by
    have h2 : (match (generalizing := false) x with
      | .Assign [.Tuple es _ _] v _ => Tg.chks X.N true sc t.subs es && t.isT && t.slots.all (fun i => decide (i ∈ as)) && !isTupE v && Ex.chk X.N fs sc e v
      | _ => false) = true := h
    clear h
    split at h2
    · simp only [Bool.and_eq_true, decide_eq_true_eq] at h2
      obtain ⟨⟨⟨⟨e1, e2⟩, e3⟩, e4⟩, e5⟩ := h2
      exact st_setT C hs e1 e2 e3 e4 e5
    · cases h2
  | .par i j a b, as, X, W, sc, x, C, hs, h => by
    have h2 : (match (generalizing := false) x with
      | .Assign [.Tuple [.Name y py, .Name z pz] _ _] (.Tuple [u, v] _ _) _ => decide (X.N[i]? = some y) && decide (X.N[j]? = some z) && decide (i ∈ as) && decide (j ∈ as) && !(i == j) && parOk sc y z py pz u v && Ex.chk X.N fs sc a u && Ex.chk X.N fs sc b v
      | _ => false) = true := h
    clear h
    split at h2
    · simp only [Bool.and_eq_true, decide_eq_true_eq] at h2
      obtain ⟨⟨⟨⟨⟨⟨⟨e1, e2⟩, e3⟩, e4⟩, e5⟩, e6⟩, e7⟩, e8⟩ := h2
      exact st_par C hs e1 e2 e3 e4 e5 e6 e7 e8
    · cases h2
  | .aug i p e, as, X, W, sc, x, C, hs, h => by
    have h2 : (match (generalizing := false) x with
      | .AugAssign (.Name y _) op v _ => isSt X.N true sc i y && decide (i ∈ as) && augOk p op && Ex.chk X.N fs sc e v
      | _ => false) = true := h
    clear h
    split at h2
    · simp only [Bool.and_eq_true, decide_eq_true_eq] at h2
      obtain ⟨⟨⟨e1, e2⟩, e3⟩, e4⟩ := h2
      exact st_aug C hs e1 e2 e3 e4
    · cases h2
  | .app i e, as, X, W, sc, x, C, hs, h => by
    have h2 : (match (generalizing := false) x with
      | .Expr (.Call (.Attribute (.Name y _) f ap) [v] [] cp) _ => decide (f = "append") && isNm X.N sc i y && ap.endLine == cp.line && Ex.chk X.N fs sc e v
      | _ => false) = true := h
    clear h
    split at h2
    · simp only [Bool.and_eq_true, decide_eq_true_eq] at h2
      obtain ⟨⟨⟨e1, e2⟩, e3⟩, e4⟩ := h2
      exact st_drop (se_app hs e1 e2 e3 (chk_ok e4) (Ex.sound e C.c hs e4).se) rfl
    · cases h2
  | .ext i e, as, X, W, sc, x, C, hs, h => by
    have h2 : (match (generalizing := false) x with
      | .Expr (.Call (.Attribute (.Name y _) f ap) [v] [] cp) _ => decide (f = "extend") && isNm X.N sc i y && ap.endLine == cp.line && Ex.chk X.N fs sc e v
      | _ => false) = true := h
    clear h
    split at h2
    · simp only [Bool.and_eq_true, decide_eq_true_eq] at h2
      obtain ⟨⟨⟨e1, e2⟩, e3⟩, e4⟩ := h2
      exact st_drop (se_ext hs e1 e2 e3 (chk_ok e4) (Ex.sound e C.c hs e4).se) rfl
    · cases h2
  | .rem i e, as, X, W, sc, x, C, hs, h => by
    have h2 : (match (generalizing := false) x with
      | .Expr (.Call (.Attribute (.Name y _) f ap) [v] [] cp) _ => decide (f = "remove") && isNm X.N sc i y && ap.endLine == cp.line && Ex.chk X.N fs sc e v
      | _ => false) = true := h
    clear h
    split at h2
    · simp only [Bool.and_eq_true, decide_eq_true_eq] at h2
      obtain ⟨⟨⟨e1, e2⟩, e3⟩, e4⟩ := h2
      exact st_drop (se_rem hs e1 e2 e3 (chk_ok e4) (Ex.sound e C.c hs e4).se) rfl
    · cases h2
  | .appX i a e, as, X, W, sc, x, C, hs, h => by
    have h2 : (match (generalizing := false) x with
      | .Expr (.Call (.Attribute (.Subscript (.Name y _) b _) f ap) [v] [] cp) _ => decide (f = "append") && isNm X.N sc i y && ap.endLine == cp.line && e.pu && Ex.chk X.N fs sc a b && Ex.chk X.N fs sc e v
      | _ => false) = true := h
    clear h
    split at h2
    · simp only [Bool.and_eq_true, decide_eq_true_eq] at h2
      obtain ⟨⟨⟨⟨⟨e1, e2⟩, e3⟩, e4⟩, e5⟩, e6⟩ := h2
      exact st_drop (se_appX hs e1 e2 e3 (chk_ok e6) (chk_ok e5) e4 (Ex.sound a C.c hs e5).se (Ex.sound e C.c hs e6).se) rfl
    · cases h2
  | .sda i a j, as, X, W, sc, x, C, hs, h => by
    have h2 : (match (generalizing := false) x with
      | .Expr (.Call (.Attribute (.Call (.Attribute (.Name y _) f ap) [b, .List [] _] [] cp) g ap2) [.Name z _] [] cp2) _ => decide (f = "setdefault") && decide (g = "append") && isNm X.N sc i y && isNm X.N sc j z && ap.endLine == cp.line && ap2.endLine == cp2.line && a.pu && Ex.chk X.N fs sc a b
      | _ => false) = true := h
    clear h
    split at h2
    · simp only [Bool.and_eq_true, decide_eq_true_eq] at h2
      obtain ⟨⟨⟨⟨⟨⟨⟨e1, e2⟩, e3⟩, e4⟩, e5⟩, e6⟩, e7⟩, e8⟩ := h2
      exact st_drop (se_sda C.c.room hs e1 e2 e3 e4 e5 e6 (chk_ok e8) e7 (Ex.sound a C.c hs e8).se) rfl
    · cases h2
  | .setI i a e, as, X, W, sc, x, C, hs, h => by
    have h2 : (match (generalizing := false) x with
      | .Assign [.Subscript (.Name y _) b _] v _ => isNm X.N sc i y && Ex.chk X.N fs sc a b && Ex.chk X.N fs sc e v
      | _ => false) = true := h
    clear h
    split at h2
    · simp only [Bool.and_eq_true, decide_eq_true_eq] at h2
      obtain ⟨⟨e1, e2⟩, e3⟩ := h2
      exact st_setI C hs e1 e2 e3
    · cases h2
  | .putD i a e, as, X, W, sc, x, C, hs, h => by
    have h2 : (match (generalizing := false) x with
      | .Assign [.Subscript (.Name y _) b _] v _ => isNm X.N sc i y && Ex.chk X.N fs sc a b && Ex.chk X.N fs sc e v
      | _ => false) = true := h
    clear h
    split at h2
    · simp only [Bool.and_eq_true, decide_eq_true_eq] at h2
      obtain ⟨⟨e1, e2⟩, e3⟩ := h2
      exact st_putD C hs e1 e2 e3
    · cases h2
  | .rev i, as, X, W, sc, x, C, hs, h => by
    have h2 : (match (generalizing := false) x with
      | .Expr (.Call (.Attribute (.Name y _) f ap) [] [] cp) _ => decide (f = "reverse") && isNm X.N sc i y && ap.endLine == cp.line
      | _ => false) = true := h
    clear h
    split at h2
    · simp only [Bool.and_eq_true, decide_eq_true_eq] at h2
      obtain ⟨⟨e1, e2⟩, e3⟩ := h2
      exact st_rev C hs e1 e2 e3
    · cases h2
  | .ex e, as, X, W, sc, x, C, hs, h => by
    have h2 : (match (generalizing := false) x with
      | .Expr v _ => !isComp v && Ex.chk X.N fs sc e v
      | _ => false) = true := h
    clear h
    split at h2
    · simp only [Bool.and_eq_true, Bool.not_eq_true'] at h2
      exact st_drop (Ex.sound e C.c hs h2.2).se (sw_plain h2.1)
    · cases h2
  | .ret e, as, X, W, sc, x, C, hs, h => by
    have h2 : (match (generalizing := false) x with
      | .Return (some v) _ => Ex.chk X.N fs sc e v
      | _ => false) = true := h
    clear h
    split at h2
    · exact ps_imp (ps_ret (Ex.sound e C.c hs h2).se) fun E σ H q => ret_read q
    · cases h2
  | .retN, as, X, W, sc, x, C, hs, h => by
    have h2 : (match (generalizing := false) x with
      | .Return none _ => true
      | _ => false) = true := h
    clear h
    split at h2
    · exact ps_imp ps_retN fun E σ H q => by
        obtain ⟨m, F, A, hR, hG, q⟩ := q
        exact q .non H ⟨F, A, [], σ, hR, by simpa using hG, by simpa using Stp.refl, (by simp only [RM, RepD]; exact ⟨trivial, trivial⟩), Agree.refl _ _⟩
    · cases h2
  | .ite c a b, as, X, W, sc, x, C, hs, h => by
    have h2 : (match (generalizing := false) x with
      | .If y z u _ => c.tst && Ex.chk X.N fs sc c y && Sts.chk X.N fs as sc a z && Sts.chk X.N fs as sc b u
      | _ => false) = true := h
    clear h
    split at h2
    · simp only [Bool.and_eq_true, decide_eq_true_eq] at h2
      obtain ⟨⟨⟨e1, e2⟩, e3⟩, e4⟩ := h2
      exact ps_imp (ps_if ((Ex.sound c C.c hs e2).st e1) (Sts.sound a C hs e3) (Sts.sound b C hs e4)) fun E σ H q => ite_read' q
    · cases h2
  | .iteI c a b, as, X, W, sc, x, C, hs, h => by
    have h2 : (match (generalizing := false) x with
      | .If (.BinOp u o v p) y z _ => Ex.chk X.N fs sc c (.BinOp u o v p) && Sts.chk X.N fs as sc a y && Sts.chk X.N fs as sc b z
      | _ => false) = true := h
    clear h
    split at h2
    · simp only [Bool.and_eq_true, decide_eq_true_eq] at h2
      obtain ⟨⟨e2, e3⟩, e4⟩ := h2
      exact ps_imp (ps_if (pt_truth (Ex.sound c C.c hs e2).se fun _ => rfl) (Sts.sound a C hs e3) (Sts.sound b C hs e4)) fun E σ H q => ite_readI q
    · cases h2
  | .forS t it b, as, X, W, sc, x, C, hs, h => by
    have h2 : (match (generalizing := false) x with
      | .For tg iter body [] _ => Tg.chk X.N true sc t tg && t.slots.all (fun i => decide (i ∈ as)) && okE iter && (!it.needT || isTupE tg) && Itx.chk X.N fs sc it iter && Sts.chk X.N fs as sc b body
      | _ => false) = true := h
    clear h
    split at h2
    · simp only [Bool.and_eq_true, decide_eq_true_eq] at h2
      obtain ⟨⟨⟨⟨⟨e1, e2⟩, e3⟩, e4⟩, e5⟩, e6⟩ := h2
      exact ps_imp (ps_for C.po C.c.calm (Itx.sound it C.c hs e5 e4) (C.pg hs e1) (Sts.sound b C hs e6) (no_fold e3)) fun E σ H q => for_read (fun i hi => by simpa using List.all_eq_true.mp e2 i hi) q
    · cases h2
  | .whl c b, as, X, W, sc, x, C, hs, h => by
    have h2 : (match (generalizing := false) x with
      | .While y body [] _ => c.tst && Ex.chk X.N fs sc c y && Sts.chk X.N fs as sc b body
      | _ => false) = true := h
    clear h
    split at h2
    · simp only [Bool.and_eq_true, decide_eq_true_eq] at h2
      obtain ⟨⟨e1, e2⟩, e3⟩ := h2
      exact ps_imp (ps_while C.po ((Ex.sound c C.c hs e2).st e1) (Sts.sound b C hs e3)) fun E σ H q => whl_read q
    · cases h2
  | .brk, as, X, W, sc, x, C, hs, h => by
    have h2 : (match (generalizing := false) x with
      | .Break _ => true
      | _ => false) = true := h
    clear h
    split at h2
    · exact ps_imp ps_break fun E σ H q => by
        obtain ⟨m, F, A, hR, hG, q⟩ := q
        exact q σ H ⟨F, A, hR, hG, Stp.refl, Agree.refl _ _, fun _ => Same.refl _⟩
    · cases h2
  | .cont, as, X, W, sc, x, C, hs, h => by
    have h2 : (match (generalizing := false) x with
      | .Continue _ => true
      | _ => false) = true := h
    clear h
    split at h2
    · exact ps_imp ps_continue fun E σ H q => by
        obtain ⟨m, F, A, hR, hG, q⟩ := q
        exact q σ H ⟨F, A, hR, hG, Stp.refl, Agree.refl _ _, fun _ => Same.refl _⟩
    · cases h2
  | .pas, as, X, W, sc, x, C, hs, h => by
    have h2 : (match (generalizing := false) x with
      | .Pass _ => true
      | _ => false) = true := h
    clear h
    split at h2
    · exact ps_imp ps_pass fun E σ H q => by
        obtain ⟨m, F, A, hR, hG, q⟩ := q
        exact q σ H ⟨F, A, hR, hG, Stp.refl, Agree.refl _ _, fun _ => Same.refl _⟩
    · cases h2
  | .augI i p a e, as, X, W, sc, x, C, hs, h => by
    have h2 : (match (generalizing := false) x with
      | .AugAssign (.Subscript (.Name y _) b _) op v _ => isNm X.N sc i y && augOk p op && Ex.chk X.N fs sc a b && Ex.chk X.N fs sc e v
      | _ => false) = true := h
    clear h
    split at h2
    · simp only [Bool.and_eq_true, decide_eq_true_eq] at h2
      obtain ⟨⟨⟨e1, e2⟩, e3⟩, e4⟩ := h2
      exact st_augI C hs e1 e2 e3 e4
    · cases h2
  | .rai c, as, X, W, sc, x, C, hs, h => by
    have h2 : (match (generalizing := false) x with
      | .Raise (some (.Call (.Name y _) [] [] _)) none _ => decide (y = c) && isGl sc y && decide (fs.lookup y = some 100)
      | _ => false) = true := h
    clear h
    split at h2
    · simp only [Bool.and_eq_true, decide_eq_true_eq] at h2
      obtain ⟨⟨rfl, e2⟩, e3⟩ := h2
      exact st_rai C hs e2 e3
    · cases h2
  | .tri b as2 l kn, as, X, W, sc, x, C, hs, h => by
    have h2 : (match (generalizing := false) x with
      | .Try body hds [] [] _ => !l.isEmpty && hdsChk X.N as sc kn l hds && kn.all (fun c => decide (fs.lookup c = some 100)) && as2.all (fun i => decide (i ∈ as)) && Sts.chk X.N fs as2 sc b body
      | _ => false) = true := h
    clear h
    split at h2
    · rename_i body hds pos
      simp only [Bool.and_eq_true, decide_eq_true_eq] at h2
      obtain ⟨⟨⟨⟨e1, e2⟩, e3⟩, e4⟩, e5⟩ := h2
      have hk : ∀ c ∈ kn, fs.lookup c = some 100 := fun c hc => by simpa using List.all_eq_true.mp e3 c hc
      obtain ⟨r1, r2, r3⟩ := hds_ok C hs hk e2
      cases hds with
      | nil =>
        cases l with
        | nil => cases e1
        | cons q l => cases e2
      | cons h0 hds =>
        exact ps_imp (ps_try_many (tb := fun W' => tSt X.K X.w X.mg W' b.pu as2 (b.runs cf cs fu)) C.stk C.frm C.c.tk (fun W' pn xe tk po => Sts.sound b (C.try_ tk po) hs e5) r1) fun E σ H q => tri_read C.c.em C.c.er hk r2 r3 (fun i hi => by simpa using List.all_eq_true.mp e4 i hi) q
    · cases h2
  | .never, as, X, W, sc, x, C, hs, h => ps_imp ps_never fun E σ H ⟨m, F, A, hR, hG, q⟩ => q
theorem Sts.sound : ∀ (s : Sts) {as : List Nat} {X : Cx} {W : WX} {sc : Scope} {xs : List Stmt}, SCtx X k fs cf cs W → X.env.scope = sc → Sts.chk X.N fs as sc s xs = true → PSs X xs (tSt X.K X.w X.mg W s.pu as (s.runs cf cs fu))
  | .nil, as, X, W, sc, x, C, hs, h => by
    have h2 : (match (generalizing := false) x with
      | [] => true
      | _ => false) = true := h
    clear h
    split at h2
    · exact pss_imp pss_nil fun E σ H q => by
        obtain ⟨m, F, A, hR, hG, q⟩ := q
        exact q σ H ⟨F, A, hR, hG, Stp.refl, Agree.refl _ _, fun _ => Same.refl _⟩
    · cases h2
  | .cons s r, as, X, W, sc, x, C, hs, h => by
    have h2 : (match (generalizing := false) x with
      | y :: ys => St.chk X.N fs as sc s y && Sts.chk X.N fs as sc r ys
      | _ => false) = true := h
    clear h
    split at h2
    · rw [Bool.and_eq_true] at h2
      exact pss_imp (pss_cons (St.sound s C hs h2.1) (Sts.sound r C hs h2.2)) fun E σ H q => seq_read q
    · cases h2
end
end
end Oa

/-! Part 29: defs. -/
namespace Oa
open PySem PySem.Spec PyProof.Rows L2
/-- a def: its names (the parameters first), which parameters are written to, what is assigned, its body -/
structure Fn where
  N : List Str
  wp : List Bool
  as : List Nat
  body : Sts
def M.isP : M → Bool
  | .d _ | .s _ => true
  | _ => false
def backs : List Bool → List M → Sl → Option (List M)
  | [], [], _ => some []
  | true :: bs, _ :: ks, some k' :: m => (backs bs ks m).map (k' :: ·)
  | false :: bs, k :: ks, _ :: m => if k.isP = true then (backs bs ks m).map (k :: ·) else none
  | _, _, _ => none
def slots0 (n : Nat) (ks : List M) : Sl := ks.map some ++ List.replicate (n - ks.length) none
def endF (wp : List Bool) (ks : List M) (k : M) (m : Sl) : Res (Rv × List M) := match backs wp ks m with
  | some ks' => .ok (.o k, ks')
  | none => .bad
def outF (wp : List Bool) (ks : List M) : Res Out → Res (Rv × List M)
  | .ok (.nx m) => endF wp ks (.d .none) m
  | .ok (.rt k m) => endF wp ks k m
  | .ok _ => .bad
  | .er c x => .er c x
  | .bad => .bad
def fnF (cf : CfT) (cs : Str → Option D) (fu : Nat) (fn : Fn) (ks : List M) : Res (Rv × List M) := outF fn.wp ks (fn.body.runs cf cs fu (slots0 fn.N.length ks))
def Fn.ok (fn : Fn) (fs : List (Str × Nat)) (ps : List Str) (st : Stmt) : Bool := C8.scC fn.N ps (defScope st) && Sts.chk fn.N fs fn.as (defScope st) fn.body (defBody st) && (List.range fn.wp.length).all (fun i => !decide (fn.wp[i]? = some true) || !decide (i ∈ fn.as))
section
variable {K : PySem.W.Frag} {w : World}
theorem rs_none {F H : Hp} : ∀ n : Nat, RS K w F H (List.replicate n none) (List.replicate n none) []
  | 0 => rfl
  | n + 1 => by
    rw [List.replicate_succ, List.replicate_succ]
    simp only [RS]
    exact rs_none n
theorem rs_start {F H : Hp} {n : Nat} : ∀ {vs : List V} {ks : List M} {A : List Addr}, RMs K w F H vs ks A → RS K w F H (vs.map some ++ List.replicate n none) (ks.map some ++ List.replicate n none) A
  | [], [], A, h => by
    simp only [RMs] at h
    subst h
    exact rs_none n
  | [], _ :: _, _, h => by simp only [RMs] at h
  | _ :: _, [], _, h => by simp only [RMs] at h
  | v :: vs, k :: ks, _, h => by
    simp only [RMs] at h
    obtain ⟨A1, A2, h1, h2, rfl⟩ := h
    simp only [List.map_cons, List.cons_append, RS]
    exact ⟨v, A1, A2, rfl, h1, rs_start h2, rfl⟩
theorem backs_ok {F H F' H' : Hp} (s : Same F F') : ∀ {bs : List Bool} {ks ks' : List M} {vs : List V} {m : Sl} {σ : L2.St} {A A' : List Addr}, backs bs ks m = some ks' → RMs K w F H vs ks A → RS K w F' H' σ m A' → (∀ i : Nat, bs[i]? = some true → σ[i]? = vs[i]?.map some) → ∃ A2, RMs K w F' H' vs ks' A2 ∧ A2.Sublist A'
  | [], [], ks', vs, m, σ, A, A', e, h, r, _ => by
    simp only [backs, Option.some.injEq] at e
    subst e
    cases vs with
    | nil => exact ⟨[], rfl, List.nil_sublist _⟩
    | cons v vs => simp only [RMs] at h
  | [], _ :: _, _, _, _, _, _, _, e, _, _, _ => by simp [backs] at e
  | _ :: _, [], _, _, _, _, _, _, e, _, _, _ => by simp [backs] at e
  | _ :: _, _ :: _, _, _, [], _, _, _, e, _, _, _ => by simp [backs] at e
  | true :: _, _ :: _, _, _, none :: _, _, _, _, e, _, _, _ => by simp [backs] at e
  | _ :: _, _ :: _, _, [], _ :: _, _, _, _, _, h, _, _ => by simp only [RMs] at h
  | _ :: _, _ :: _, _, _ :: _, _ :: _, [], _, _, _, _, r, _ => by simp only [RS] at r
  | true :: bs, k :: ks, ks', v :: vs, some k' :: m, x :: σ, A, A', e, h, r, hw => by
    simp only [backs, Option.map_eq_some_iff] at e
    obtain ⟨ks2, e1, rfl⟩ := e
    simp only [RMs] at h
    obtain ⟨A1, A2, h1, h2, rfl⟩ := h
    simp only [RS] at r
    obtain ⟨u, B1, B2, hx, r1, r2, rfl⟩ := r
    have e0 := hw 0 rfl
    simp only [List.getElem?_cons_zero, Option.map_some, Option.some.injEq] at e0
    rw [hx] at e0
    cases e0
    obtain ⟨C, c1, c2⟩ := backs_ok s e1 h2 r2 fun i hi => by simpa using hw (i + 1) (by simpa using hi)
    exact ⟨B1 ++ C, by simp only [RMs]; exact ⟨B1, C, r1, c1, rfl⟩, c2.append_left _⟩
  | false :: bs, k :: ks, ks', v :: vs, y :: m, x :: σ, A, A', e, h, r, hw => by
    simp only [backs] at e
    split at e
    · rename_i hp
      simp only [Option.map_eq_some_iff] at e
      obtain ⟨ks2, e1, rfl⟩ := e
      simp only [RMs] at h
      obtain ⟨A1, A2, h1, h2, rfl⟩ := h
      have hk : RM K w F' H' v k [] := by
        cases k with
        | d y =>
          simp only [RM] at h1 ⊢
          exact ⟨h1.1.mono s, trivial⟩
        | s y =>
          simp only [RM] at h1 ⊢
          obtain ⟨a, vs, q1, q2, q3, _⟩ := h1
          exact ⟨a, vs, q1, s.seq q2, q3.mono s, trivial⟩
        | _ => cases hp
      have r2 : ∃ B, RS K w F' H' σ m B ∧ B.Sublist A' := by
        cases y with
        | none =>
          simp only [RS] at r
          exact ⟨A', r, .refl _⟩
        | some q =>
          simp only [RS] at r
          obtain ⟨u, B1, B2, hx, r1, r2, rfl⟩ := r
          exact ⟨B2, r2, List.sublist_append_right _ _⟩
      obtain ⟨B, r2, sB⟩ := r2
      obtain ⟨C, c1, c2⟩ := backs_ok s e1 h2 r2 fun i hi => by simpa using hw (i + 1) (by simpa using hi)
      exact ⟨C, by simp only [RMs]; exact ⟨[], C, hk, c1, rfl⟩, c2.trans sB⟩
    · cases e
end
section
variable {P : Program} {w : World} {K : PySem.W.Frag} {mg : Str → Option Value} {base : Heap} {k : Nat} {fs : List (Str × Nat)} {cf : CfT} {cs : Str → Option D} {fu : Nat}
/-- what the module gives a def's body -/
structure Mod (P : Program) (w : World) (K : PySem.W.Frag) (mg : Str → Option Value) (base : Heap) (k : Nat) (fs : List (Str × Nat)) (cf : CfT) (cs : Str → Option D) : Prop where
  bi : ∀ x ∈ bis, mg x = none
  fn : ∀ f n, fs.lookup f = some n → n < 100 → ∃ (fa : Addr) (fd : FuncData) (ps : List Str), ps.length = n ∧ mg f = some (.ref fa) ∧ PySem.W.keepIn K (.ref fa) = true ∧ Binds K fd ps [] ∧ FnOk P w K mg base (L2.CX P w) k fa fd ps (spF K w mg n (cf f))
  cst : ∀ x d, cs x = some d → ∃ u v, mg x = some u ∧ RelV v u ∧ ∀ F, RepD K w F v d
  er : ∀ c, fs.lookup c = some 100 → ErC K mg c
  em : ∀ c h C Hd, fs.lookup c = some 100 → fs.lookup h = some 100 → mg c = some (.ref C) → mg h = some (.ref Hd) → PySem.W.exmOne K (.ref C) (.ref Hd) = some (mat c h)
theorem start_get {N : List Str} {vs : List V} {i : Nat} (hi : i < vs.length) : (L2.start N vs)[i]? = vs[i]?.map some := by
  unfold L2.start
  rw [List.getElem?_append_left (by simpa using hi), List.getElem?_map]
theorem fn_ok (hM : Mod P w K mg base k fs cf cs) {fn : Fn} {x qual : Str} {st : Stmt} {f : Addr} {fd : FuncData} {ps : List Str} (hf : FunD K x qual (defArgs st) (defBody st) (defScope st) [] [] f fd) (hok : fn.ok fs ps st = true) : FnOk P w K mg base (L2.CX P w) (k + 1) f fd ps (spF K w mg ps.length (fnF cf cs fu fn)) := by
  unfold Fn.ok at hok
  simp only [Bool.and_eq_true] at hok
  obtain ⟨⟨hS, hC⟩, hW⟩ := hok
  have S := C8.fnScope_by hS
  refine hf.ok S (fun vs H Q E h => h.1) fun cdv A outer s H vs Q E hr h => ?_
  obtain ⟨hl, F, ks, A0, rk, g0, h⟩ := h
  let X := cxOf (L2.CX P w) P w K mg base fn.N qual (defScope st) f cdv A outer s H E
  have C : SCtx X k fs cf cs (fun cls d _ H' => E cls d H') := by
    refine ⟨⟨rfl, hr, S.nd, hM.bi, hM.fn, hM.cst, hM.er, hM.em, takes_of (X := X) rfl rfl rfl rfl⟩, S.kind, passes_of (X := X) (K := fun e s'' => CX P w outer H s E e s'') rfl, fun _ _ => rfl, rfl, rfl⟩
  refine ⟨_, Sts.sound (fu := fu) fn.body C rfl hC, slots0 fn.N.length ks, F, A0, ?_, g0, ?_⟩
  · unfold slots0 L2.start
    rw [← RMs.len rk]
    exact rs_start rk
  · have par : ∀ {σ' : L2.St}, Agree fn.as (L2.start fn.N vs) σ' → ∀ {ks' : List M} {m' : Sl}, backs fn.wp ks m' = some ks' → ∀ i : Nat, fn.wp[i]? = some true → i < vs.length → σ'[i]? = vs[i]?.map some := fun {σ'} ag {ks' m'} _ i hi hlt => by
      have q := List.all_eq_true.mp hW i (List.mem_range.mpr (List.getElem?_eq_some_iff.mp hi).1)
      simp only [hi, decide_true, Bool.not_true, Bool.false_or, Bool.not_eq_true', decide_eq_false_iff_not] at q
      rw [ag.2 i q, start_get hlt]
    have lens : ∀ {bs : List Bool} {ks ks' : List Oa.M} {m : Sl}, backs bs ks m = some ks' → bs.length = ks.length := by
      intro bs
      induction bs with
      | nil => intro ks ks' m e; cases ks with
        | nil => rfl
        | cons a b => simp [backs] at e
      | cons b bs ih => intro ks ks' m e; cases ks with
        | nil => simp [backs] at e
        | cons a as => cases m with
          | nil => simp [backs] at e
          | cons c cs => cases b with
            | true => cases c with
              | none => simp [backs] at e
              | some c =>
                simp only [backs, Option.map_eq_some_iff] at e
                obtain ⟨_, e1, _⟩ := e
                simp [ih e1]
            | false =>
              simp only [backs] at e
              split at e
              · simp only [Option.map_eq_some_iff] at e
                obtain ⟨_, e1, _⟩ := e
                simp [ih e1]
              · cases e
    have fin : ∀ {kk : Oa.M} {m' : Sl}, (match endF fn.wp ks kk m' with
      | .ok (r, ks') => ∀ v F' H' A' T, RMs K w F' H' vs ks' A' → GS F' H' (A' ++ T) → Stp A0 F H (A' ++ T) F' H' → RR K w F' H' v r T → Q v H'
      | .er c x => ∀ cls d H', ErP mg A0 H c x cls d H' → E cls d H'
      | .bad => False) → ∀ {v : V} {F' H' : Hp} {A' T : List Addr} {σ' : L2.St}, RS K w F' H' σ' m' A' → GS F' H' (A' ++ T) → Stp A0 F H (A' ++ T) F' H' → RM K w F' H' v kk T → Agree fn.as (L2.start fn.N vs) σ' → Q v H' := fun {kk m'} h {v F' H' A' T σ'} r1 r2 r3 r4 r5 => by
      unfold endF at h
      cases eb : backs fn.wp ks m' with
      | none => simp only [eb] at h
      | some ks' =>
        simp only [eb] at h
        have hlen := lens eb
        obtain ⟨A2, c1, c2⟩ := backs_ok r3.ff eb rk r1 fun i hi => by
          refine par r5 eb i hi ?_
          rw [RMs.len rk, ← hlen]
          exact (List.getElem?_eq_some_iff.mp hi).1
        exact h v F' H' A2 T c1 (r2.sub' (c2.append_right T)) (r3.mem (fun _ h => h) fun a ha => .inl ((c2.append_right T).subset ha)) r4
    have h2 : (match outF fn.wp ks (fn.body.runs cf cs fu (slots0 fn.N.length ks)) with
      | .ok (r, ks') => ∀ v F' H' A' T, RMs K w F' H' vs ks' A' → GS F' H' (A' ++ T) → Stp A0 F H (A' ++ T) F' H' → RR K w F' H' v r T → Q v H'
      | .er c x => ∀ cls d H', ErP mg A0 H c x cls d H' → E cls d H'
      | .bad => False) := h
    cases eo : fn.body.runs cf cs fu (slots0 fn.N.length ks) with
    | bad => rw [eo] at h2; exact h2
    | er c x => rw [eo] at h2; exact fun cls d σ' H' _ q => h2 cls d H' q
    | ok o =>
      rw [eo] at h2
      cases o with
      | nx m' =>
        rintro σ' H' ⟨F', A', r1, r2, r3, r4, _⟩
        exact fin (kk := .d .none) h2 (T := []) r1 (by simpa using r2) (by simpa using r3) (by simp only [RM, RepD]; exact ⟨trivial, trivial⟩) r4
      | bk m' => exact h2.elim
      | ct m' => exact h2.elim
      | rt kk m' =>
        rintro v H' ⟨F', A', T, σ', r1, r2, r3, r4, r5⟩
        exact fin (kk := kk) h2 r1 r2 r3 r4 r5
end
end Oa

/-! Part 30: from a law's value to its statement. -/
namespace Oa
open PySem PySem.Spec PyProof.Rows L2
theorem cx_none {P : Program} {w : World} {H : Hp} {s : Shared} {e : Value} {s' : Shared} (h : L2.CX P w [] H s (fun _ _ _ => False) e s') : False := by
  obtain ⟨_, _, _, _, _, _, _, _, _, _, _, _, z⟩ := h
  exact z
/-- as L2.walk_ofE, a def's exceptions as HandS.Exc has them -/
theorem walk_oa {l : PySem.W.OpenLaw} {n k : Nat} {q : Program} {loose : List Str} {XP : (Str → Option Value) → Heap → Prop} {YP : World → Heap → Prop} {d : DefRec} {x : Str}
    (hn : l.most = some n) (hn2 : n ≤ sizeLine) (hdf : d.params.defaults = []) (hr : Room k callerA)
    (F : ∀ (w : World) (mg : Str → Option Value) (fa : Addr) (h : Heap), YP w h → h.Ns mainGlobals mg → mg d.name = some (.ref fa) →
      ∃ (K : PySem.W.Frag) (fd : FuncData) (sp : Sp), K.In h ∧ (∀ (s : Shared) (u : Value), BindsTo s fd ⟨[u], []⟩ [(x, u)]) ∧
        (∀ (H : Hp) (a : Addr) (ns : List Int), ns.length ≤ n → SqL K H a (ns.map V.int) → sp [.ref a] H (fun v _ => v = .bl true) fun _ _ _ => False) ∧
        ∀ base : Heap, K.In base → base.Ns mainGlobals mg → FnOk l.prog w K mg base (L2.CX l.prog w) k fa fd [x] sp) :
    PySem.W.WalkO q loose XP YP l.row.toRowW d [] (fun f vs => PySem.call f vs) := by
  refine Att.attach_call hn hdf fun w s0 s1 mg mb fa o pm cd doc a vs ns G Y ho hd hcd hmg hobj hints hlen hg => ?_
  obtain ⟨K, fd, sp, KX, hb, hsp, hF⟩ := F w mg fa _ Y G.T.g hmg
  exact law_call KX G.T.g G.T.b G.T.builtins G.T.nolimit hg hobj hints (Nat.le_trans hlen hn2) hr hF hb (fun H _ hS => hsp H a ns hlen hS) fun H e s' => cx_none
/-- the law's promise, by its value -/
theorem law_spec {K : PySem.W.Frag} {w : World} {mg : Str → Option Value} {f : List M → Res (Rv × List M)} {n : Nat} (h : ∀ ns : List Int, ns.length ≤ n → ∃ ks', f [.s (ns.map .int)] = .ok (.o (.d (.bool true)), ks')) :
    ∀ (H : Hp) (a : Addr) (ns : List Int), ns.length ≤ n → SqL K H a (ns.map V.int) → spF K w mg 1 f [.ref a] H (fun v _ => v = .bl true) fun _ _ _ => False := by
  intro H a ns hl hs
  obtain ⟨ks', e⟩ := h ns hl
  have hrep : RepDs K w H (ns.map V.int) (ns.map .int) := by
    clear hs hl e
    induction ns with
    | nil => simp only [List.map_nil, RepDs]
    | cons i l ih => simp only [List.map_cons, RepDs, RepD]; exact ⟨trivial, ih⟩
  refine ⟨rfl, H, [.s (ns.map .int)], [], ?_, gs_nil (Same.refl H), ?_⟩
  · simp only [RMs, RM]
    exact ⟨[], [], ⟨a, _, rfl, hs, hrep, rfl⟩, rfl, rfl⟩
  · rw [e]
    intro v F' H' A' T _ _ _ r
    have : RM K w F' H' v (.d (.bool true)) T := r
    simp only [RM, RepD] at this
    exact this.1
end Oa

namespace Oa
open PySem PySem.Spec PyProof.Rows L2
def tp (i : Nat) : Stmt := PySem.Challenge.pw_onearrow_k07_pieces_judged.main.body.getD i (.Pass ⟨0, 0, 0, 0⟩)
def kno : List Str := ["ArrowError", "NoPiece", "NoNumber"]
def f_is_integer : Fn := ⟨["thing"], [false], [],
  (.cons (.ret (.and (.isi (.var 0) "int") (.not (.isi (.var 0) "bool"))))
  .nil)⟩
def f_is_between : Fn := ⟨["thing", "least", "most"], [false, false, false], [],
  (.cons (.ret (.and (.call "is_integer" (.r (.var 0) .nil)) (.cmp2 .le .le (.var 1) (.var 0) (.var 2))))
  .nil)⟩
def f_check_number : Fn := ⟨["thing", "least", "most"], [false, false, false], [],
  (.cons (.ite (.not (.call "is_between" (.r (.var 0) (.r (.var 1) (.r (.var 2) .nil)))))
  (.cons (.rai "NoNumber")
  .nil)
  .nil)
  .nil)⟩
def f_is_depth_row : Fn := ⟨["thing", "depth", "later"], [false], [],
  (.cons (.ite (.or (.not (.isi (.var 0) "tuple")) (.or (.p2 .eq (.p1 .len (.var 0)) (.int 0)) (.not (.p1 .all (.comp false (.call "is_integer" (.r (.var 1) .nil)) (.n 1) (.ex (.var 0)) .nil)))))
  (.cons (.ret (.bl false))
  .nil)
  .nil)
  (.cons (.ite (.p2 .ne (.p2 .idx (.var 0) (.int 0)) (.int 0))
  (.cons (.ret (.bl false))
  .nil)
  .nil)
  (.cons (.ret (.p1 .all (.comp false (.cmp2 .le .le (.int 1) (.var 2) (.p2 .add (.var 1) (.int 1))) (.t [(.n 1), (.n 2)]) (.zip (.var 0) (.slL (.var 0) (.int 1))) .nil)))
  .nil)))⟩
def f_ends_of : Fn := ⟨["tree", "found", "waiting", "at", "depth"], [false], [1, 2, 3, 4],
  (.cons (.set 1 (.p2 .mul (.lst false (.cons (.p1 .len (.var 0)) .nil)) (.p1 .len (.var 0))))
  (.cons (.set 2 (.lst false .nil))
  (.cons (.forS (.t [(.n 3), (.n 4)]) (.enu (.frz 0))
  (.cons (.whl (.and (.p2 .gt (.p1 .len (.var 2)) (.int 0)) (.p2 .ge (.p2 .idx (.var 0) (.p2 .idx (.var 2) (.neg (.int 1)))) (.var 4)))
  (.cons (.setI 1 (.pop 2) (.var 3))
  .nil))
  (.cons (.app 2 (.frz 3))
  .nil)))
  (.cons (.ret (.mov 1))
  .nil))))⟩
def f_is_in_form : Fn := ⟨["tree", "ends", "at", "depth", "later"], [false], [1, 2, 3, 4],
  (.cons (.set 1 (.call "ends_of" (.r (.var 0) .nil)))
  (.cons (.forS (.t [(.n 2), (.n 3)]) (.enu (.var 0))
  (.cons (.set 4 (.p2 .idx (.var 1) (.var 2)))
  (.cons (.ite (.and (.p2 .lt (.var 4) (.p1 .len (.var 0))) (.and (.p2 .eq (.p2 .idx (.var 0) (.var 4)) (.var 3)) (.p2 .lt (.slB (.var 0) (.var 2) (.var 4)) (.slB (.var 0) (.var 4) (.p2 .idx (.var 1) (.var 4))))))
  (.cons (.ret (.bl false))
  .nil)
  .nil)
  .nil)))
  (.cons (.ret (.bl true))
  .nil)))⟩
def f_is_tree : Fn := ⟨["thing"], [false], [],
  (.cons (.ret (.and (.call "is_depth_row" (.r (.var 0) .nil)) (.call "is_in_form" (.r (.var 0) .nil))))
  .nil)⟩
def f_first_turn : Fn := ⟨["row", "best", "turn"], [false], [1, 2],
  (.cons (.set 1 (.int 0))
  (.cons (.forS (.n 2) (.rng2 (.int 1) (.p1 .len (.var 0)))
  (.cons (.ite (.p2 .lt (.p2 .add (.slL (.var 0) (.var 2)) (.slH (.var 0) (.var 2))) (.p2 .add (.slL (.var 0) (.var 1)) (.slH (.var 0) (.var 1))))
  (.cons (.set 1 (.frz 2))
  .nil)
  .nil)
  .nil))
  (.cons (.ret (.mov 1))
  .nil)))⟩
def f_is_marked_row : Fn := ⟨["thing", "tree"], [false], [],
  (.cons (.ret (.and (.isi (.var 0) "tuple") (.and (.p2 .gt (.p1 .len (.var 0)) (.int 0)) (.p1 .all (.comp false (.call "is_tree" (.r (.var 1) .nil)) (.n 1) (.ex (.var 0)) .nil)))))
  .nil)⟩
def f_is_piece : Fn := ⟨["thing"], [false], [],
  (.cons (.ret (.and (.call "is_marked_row" (.r (.var 0) .nil)) (.p2 .eq (.call "first_turn" (.r (.var 0) .nil)) (.int 0))))
  .nil)⟩
def f_is_heap : Fn := ⟨["thing", "piece"], [false], [],
  (.cons (.ite (.not (.isi (.var 0) "dict"))
  (.cons (.ret (.bl false))
  .nil)
  .nil)
  (.cons (.ret (.p1 .all (.comp false (.and (.call "is_piece" (.r (.var 1) .nil)) (.and (.call "is_integer" (.r (.p2 .idx (.var 0) (.var 1)) .nil)) (.p2 .gt (.p2 .idx (.var 0) (.var 1)) (.int 0)))) (.n 1) (.ex (.var 0)) .nil)))
  .nil))⟩
def f_check_piece : Fn := ⟨["thing"], [false], [],
  (.cons (.ite (.not (.call "is_piece" (.r (.var 0) .nil)))
  (.cons (.rai "NoPiece")
  .nil)
  .nil)
  .nil)⟩
def f_size_of : Fn := ⟨["row", "tree"], [false], [],
  (.cons (.ret (.p1 .sum (.comp false (.p1 .len (.var 1)) (.n 1) (.ex (.var 0)) .nil)))
  .nil)⟩
def f_piece_size : Fn := ⟨["piece"], [false], [],
  (.cons (.ex (.call "check_piece" (.r (.var 0) .nil)))
  (.cons (.ret (.call "size_of" (.r (.var 0) .nil)))
  .nil))⟩
def f_period_of : Fn := ⟨["row", "length"], [false], [1],
  (.cons (.forS (.n 1) (.rng2 (.int 1) (.p1 .len (.var 0)))
  (.cons (.ite (.and (.p2 .eq (.p2 .mod (.p1 .len (.var 0)) (.var 1)) (.int 0)) (.p2 .eq (.p2 .mul (.slH (.var 0) (.var 1)) (.p2 .fdiv (.p1 .len (.var 0)) (.var 1))) (.var 0)))
  (.cons (.ret (.mov 1))
  .nil)
  .nil)
  .nil))
  (.cons (.ret (.p1 .len (.var 0)))
  .nil))⟩
def f_root_piece : Fn := ⟨["piece"], [false], [],
  (.cons (.ret (.slH (.var 0) (.call "period_of" (.r (.var 0) .nil))))
  .nil)⟩
def f_root_of : Fn := ⟨["piece"], [false], [],
  (.cons (.ex (.call "check_piece" (.r (.var 0) .nil)))
  (.cons (.ret (.call "root_piece" (.r (.var 0) .nil)))
  .nil))⟩
def f_unrolled : Fn := ⟨["piece", "times"], [false, false], [],
  (.cons (.ex (.call "check_piece" (.r (.var 0) .nil)))
  (.cons (.ex (.call "check_number" (.r (.var 1) (.r (.int 1) (.r (.int 1000) .nil)))))
  (.cons (.ret (.p2 .mul (.var 0) (.var 1)))
  .nil)))⟩
def f__law_hand : Fn := ⟨["_law_script", "_law_cells", "_law_cell"], [false], [1],
  (.cons (.set 1 (.comp false (.p1 .abs (.p1 .int (.var 2))) (.n 2) (.ex (.slH (.var 0) (.int 63))) .nil))
  (.cons (.ret (.lst false (.cons (.frz 1) (.cons (.int 0) (.cons (.int 0) (.cons (.p2 .add (.int 1) (.p1 .len (.var 1))) (.cons (.int 0) .nil)))))))
  .nil))⟩
def f__law_draw : Fn := ⟨["_law_hand_here", "_law_many", "_law_cell", "_law_digit", "_law_number"], [true, false], [2, 3, 4],
  (.cons (.ite (.and (.p2 .eq (.p2 .idx (.var 0) (.int 2)) (.int 0)) (.p2 .lt (.p2 .idx (.var 0) (.int 1)) (.p1 .len (.p2 .idx (.var 0) (.int 0)))))
  (.cons (.set 2 (.p2 .idx (.p2 .idx (.var 0) (.int 0)) (.p2 .idx (.var 0) (.int 1))))
  (.cons (.setI 0 (.int 1) (.p2 .add (.p2 .idx (.var 0) (.int 1)) (.int 1)))
  (.cons (.setI 0 (.int 3) (.p2 .mod (.p1 .int (.p2 .add (.p2 .add (.p2 .mul (.p2 .idx (.var 0) (.int 3)) (.int 69621)) (.var 2)) (.int 11))) (.int 2147483629)))
  (.cons (.ite (.p2 .ge (.var 2) (.p2 .pow (.int 10) (.int 18)))
  (.cons (.setI 0 (.int 2) (.var 2))
  .nil)
  .nil)
  .nil))))
  .nil)
  (.cons (.ite (.p2 .gt (.p2 .idx (.var 0) (.int 2)) (.int 0))
  (.cons (.set 3 (.p2 .mod (.p1 .int (.p2 .idx (.var 0) (.int 2))) (.var 1)))
  (.cons (.setI 0 (.int 2) (.p2 .fdiv (.p2 .idx (.var 0) (.int 2)) (.var 1)))
  (.cons (.ret (.mov 3))
  .nil)))
  .nil)
  (.cons (.setI 0 (.int 4) (.p2 .add (.p2 .idx (.var 0) (.int 4)) (.int 1)))
  (.cons (.set 4 (.p2 .mod (.p1 .int (.p2 .mul (.p1 .int (.p2 .add (.p2 .idx (.var 0) (.int 3)) (.p2 .mul (.int 7919) (.p2 .idx (.var 0) (.int 4))))) (.int 48271))) (.int 2147483647)))
  (.cons (.set 4 (.p2 .mod (.p1 .int (.p2 .mul (.var 4) (.p2 .add (.p2 .fdiv (.var 4) (.int 1009)) (.int 69621)))) (.int 2147483647)))
  (.cons (.set 4 (.p2 .mod (.p1 .int (.p2 .mul (.var 4) (.p2 .add (.p2 .fdiv (.var 4) (.int 2003)) (.int 40692)))) (.int 2147483399)))
  (.cons (.ret (.p2 .mod (.p1 .int (.p2 .fdiv (.var 4) (.int 16))) (.var 1)))
  .nil)))))))⟩
def f__law_flag : Fn := ⟨["_law_told", "_law_due"], [false, false], [],
  (.cons (.ret (.and (.isi (.var 0) "bool") (.p2 .eq (.var 0) (.var 1))))
  .nil)⟩
def f__law_is_integer : Fn := ⟨["_law_thing"], [false], [],
  (.cons (.ret (.and (.isi (.var 0) "int") (.not (.isi (.var 0) "bool"))))
  .nil)⟩
def f__law_put : Fn := ⟨["_law_thing", "_law_at", "_law_item"], [false, false, false], [],
  (.cons (.ret (.p2 .add (.p2 .add (.slH (.var 0) (.var 1)) (.tup (.cons (.frz 2) .nil))) (.slL (.var 0) (.p2 .add (.var 1) (.int 1)))))
  .nil)⟩
def f__law_row : Fn := ⟨["_law_rows", "_law_found", "_law_row_here", "_law_depth"], [false], [1, 2],
  (.cons (.set 1 (.lst false (.cons (.int 0) .nil)))
  (.cons (.forS (.n 2) (.ex (.rev (.p1 .sorted (.var 0))))
  (.cons (.ext 1 (.comp false (.p2 .add (.var 3) (.int 1)) (.n 3) (.ex (.var 2)) .nil))
  .nil))
  (.cons (.ret (.p1 .tuple (.var 1)))
  .nil)))⟩
def f__law_least : Fn := ⟨["_law_row_here", "_law_k"], [false], [],
  (.cons (.ret (.p1 .min (.comp false (.p2 .add (.slL (.var 0) (.var 1)) (.slH (.var 0) (.var 1))) (.n 1) (.rng1 (.p1 .len (.var 0))) .nil)))
  .nil)⟩
def f__law_tree : Fn := ⟨["_law_hand_here", "_law_most", "_law_many", "_law_way", "_law_above", "_law_place", "_law_found"], [true, false], [2, 3, 4, 5, 6],
  (.cons (.set 2 (.p2 .add (.int 1) (.call "_law_draw" (.w 0 (.r (.frz 1) .nil)))))
  (.cons (.set 3 (.call "_law_draw" (.w 0 (.r (.int 3) .nil))))
  (.cons (.set 4 (.lst false (.cons (.int 0) .nil)))
  (.cons (.forS (.n 5) (.rng2 (.int 1) (.var 2))
  (.cons (.app 4 (.p2 .idx (.lst false (.cons (.call "_law_draw" (.w 0 (.r (.frz 5) .nil))) (.cons (.p2 .sub (.var 5) (.int 1)) (.cons (.p1 .int (.p2 .fdiv (.var 5) (.int 2))) .nil)))) (.p2 .idx (.lst false (.cons (.int 0) (.cons (.int 0) (.cons (.frz 3) .nil)))) (.call "_law_draw" (.w 0 (.r (.int 3) .nil))))))
  .nil))
  (.cons (.set 6 (.comp true (.lst false .nil) (.n 5) (.rng1 (.var 2)) .nil))
  (.cons (.forS (.n 5) (.rngD (.p2 .sub (.var 2) (.int 1)) (.int 0))
  (.cons (.appX 6 (.p2 .idx (.var 4) (.var 5)) (.call "_law_row" (.r (.p2 .idx (.var 6) (.var 5)) .nil)))
  .nil))
  (.cons (.ret (.call "_law_row" (.r (.p2 .idx (.var 6) (.int 0)) .nil)))
  .nil)))))))⟩
def f__law_piece : Fn := ⟨["_law_hand_here", "_law_ring", "_law_most", "_law_row_here", "_law_turn"], [true, false, false], [3],
  (.cons (.set 3 (.p1 .tuple (.comp false (.call "_law_tree" (.w 0 (.r (.frz 2) .nil))) (.n 4) (.rng1 (.p2 .add (.int 1) (.call "_law_draw" (.w 0 (.r (.frz 1) .nil))))) .nil)))
  (.cons (.ret (.call "_law_least" (.r (.p2 .mul (.frz 3) (.p2 .idx (.lst false (.cons (.int 1) (.cons (.int 1) (.cons (.int 2) (.cons (.int 3) .nil))))) (.call "_law_draw" (.w 0 (.r (.int 4) .nil))))) .nil)))
  .nil))⟩
def f__law_branches : Fn := ⟨["_law_tree_here", "_law_found", "_law_depth", "_law_row_here"], [false], [1, 2],
  (.cons (.set 1 (.lst true .nil))
  (.cons (.forS (.n 2) (.ex (.slL (.var 0) (.int 1)))
  (.cons (.ite (.p2 .eq (.var 2) (.int 1))
  (.cons (.app 1 (.lst false (.cons (.int 0) .nil)))
  .nil)
  (.cons (.appX 1 (.neg (.int 1)) (.p2 .sub (.var 2) (.int 1)))
  .nil))
  .nil))
  (.cons (.ret (.comp false (.p1 .tuple (.var 3)) (.n 3) (.ex (.frz 1)) .nil))
  .nil)))⟩
def f__law_is_tree : Fn := ⟨["_law_thing", "_law_at", "_law_rows", "_law_row_here"], [false], [1, 2],
  (.cons (.ite (.or (.not (.isi (.var 0) "tuple")) (.or (.p2 .eq (.p1 .len (.var 0)) (.int 0)) (.or (.not (.call "_law_is_integer" (.r (.p2 .idx (.var 0) (.int 0)) .nil))) (.p2 .ne (.p2 .idx (.var 0) (.int 0)) (.int 0)))))
  (.cons (.ret (.bl false))
  .nil)
  .nil)
  (.cons (.forS (.n 1) (.rng2 (.int 1) (.p1 .len (.var 0)))
  (.cons (.ite (.or (.not (.call "_law_is_integer" (.r (.p2 .idx (.var 0) (.var 1)) .nil))) (.not (.cmp2 .le .le (.int 1) (.p2 .idx (.var 0) (.var 1)) (.p2 .add (.p2 .idx (.var 0) (.p2 .sub (.var 1) (.int 1))) (.int 1)))))
  (.cons (.ret (.bl false))
  .nil)
  .nil)
  .nil))
  (.cons (.set 2 (.call "_law_branches" (.r (.var 0) .nil)))
  (.cons (.ite (.p2 .gt (.p1 .len (.comp false (.frz 1) (.n 1) (.rng2 (.int 1) (.p1 .len (.var 2))) (.cons (.p2 .lt (.p2 .idx (.var 2) (.p2 .sub (.var 1) (.int 1))) (.p2 .idx (.var 2) (.var 1))) .nil))) (.int 0))
  (.cons (.ret (.bl false))
  .nil)
  .nil)
  (.cons (.ret (.p1 .all (.comp false (.call "_law_is_tree" (.r (.var 3) .nil)) (.n 3) (.ex (.var 2)) .nil)))
  .nil)))))⟩
def f__law_is_piece : Fn := ⟨["_law_thing", "_law_tree_here"], [false], [],
  (.cons (.ite (.or (.not (.isi (.var 0) "tuple")) (.or (.p2 .eq (.p1 .len (.var 0)) (.int 0)) (.not (.p1 .all (.comp false (.call "_law_is_tree" (.r (.var 1) .nil)) (.n 1) (.ex (.var 0)) .nil)))))
  (.cons (.ret (.bl false))
  .nil)
  .nil)
  (.cons (.ret (.p2 .eq (.call "_law_least" (.r (.var 0) .nil)) (.var 0)))
  .nil))⟩
def f__law_deep : Fn := ⟨["_law_found", "_law_turn"], [], [0, 1],
  (.cons (.set 0 (.tup .nil))
  (.cons (.forS (.n 1) (.rng1 (.int 20))
  (.cons (.set 0 (.tup (.cons (.frz 0) .nil)))
  .nil))
  (.cons (.ret (.mov 0))
  .nil)))⟩
def f__law_word : Fn := ⟨["_law_kind", "_law_thing", "_law_times", "_law_word_here"], [false, false, false], [3],
  (.cons (.set 3 (.str "other"))
  (.cons (.tri (.cons (.ite (.p2 .eq (.var 0) (.int 0))
  (.cons (.ex (.call "piece_size" (.r (.var 1) .nil)))
  .nil)
  (.cons (.ite (.p2 .eq (.var 0) (.int 1))
  (.cons (.ex (.call "root_of" (.r (.var 1) .nil)))
  .nil)
  (.cons (.ex (.call "unrolled" (.r (.var 1) (.r (.var 2) .nil))))
  .nil))
  .nil))
  (.cons (.set 3 (.str "told"))
  .nil)) [3] [("NoPiece", 3, (.str "piece")), ("NoNumber", 3, (.str "number")), ("ArrowError", 3, (.str "other"))] kno)
  (.cons (.ret (.mov 3))
  .nil)))⟩
def f__law_bent : Fn := ⟨["_law_hand_here", "_law_piece_here", "_law_way", "_law_at", "_law_odd"], [true, false], [2, 3, 4],
  (.cons (.set 2 (.call "_law_draw" (.w 0 (.r (.int 9) .nil))))
  (.cons (.set 3 (.call "_law_draw" (.w 0 (.r (.p1 .len (.var 1)) .nil))))
  (.cons (.ite (.p2 .eq (.var 2) (.int 0))
  (.cons (.ret (.var 1))
  .nil)
  .nil)
  (.cons (.ite (.p2 .eq (.var 2) (.int 1))
  (.cons (.ret (.p2 .idx (.lst false (.cons (.p1 .list (.var 1)) (.cons .non (.cons (.tup .nil) (.cons .dct (.cons (.str "piece") (.cons (.int 0) (.cons (.tup (.cons (.frz 1) .nil)) (.cons (.p2 .idx (.var 1) (.int 0)) (.cons (.bl true) (.cons (.call "_law_deep" .nil) .nil))))))))))) (.call "_law_draw" (.w 0 (.r (.int 10) .nil)))))
  .nil)
  .nil)
  (.cons (.ite (.p2 .eq (.var 2) (.int 2))
  (.cons (.ret (.p2 .add (.slL (.var 1) (.var 3)) (.slH (.var 1) (.var 3))))
  .nil)
  .nil)
  (.cons (.ite (.p2 .eq (.var 2) (.int 3))
  (.cons (.ret (.p2 .add (.slH (.var 1) (.var 3)) (.slL (.var 1) (.p2 .add (.var 3) (.int 1)))))
  .nil)
  .nil)
  (.cons (.ite (.p2 .eq (.var 2) (.int 4))
  (.cons (.ret (.p2 .add (.p2 .add (.slH (.var 1) (.var 3)) (.tup (.cons (.call "_law_tree" (.w 0 (.r (.int 4) .nil))) .nil))) (.slL (.var 1) (.p2 .add (.frz 3) (.call "_law_draw" (.w 0 (.r (.int 2) .nil)))))))
  .nil)
  .nil)
  (.cons (.ite (.p2 .eq (.var 2) (.int 5))
  (.cons (.ret (.rev (.var 1)))
  .nil)
  .nil)
  (.cons (.set 4 (.lst false (.cons .non (.cons (.tup .nil) (.cons (.tup (.cons (.int 1) .nil)) (.cons (.tup (.cons (.int 0) (.cons (.int 2) .nil))) (.cons (.tup (.cons (.int 0) (.cons (.int 1) (.cons (.int 1) (.cons (.int 2) .nil))))) (.cons (.tup (.cons (.bl true) .nil)) (.cons (.tup (.cons (.bl false) .nil)) (.cons (.p1 .list (.p2 .idx (.var 1) (.var 3))) (.cons (.tup (.cons (.int 0) (.cons (.bl true) .nil))) (.cons (.str "0") (.cons (.call "_law_deep" .nil) .nil)))))))))))))
  (.cons (.ret (.call "_law_put" (.r (.frz 1) (.r (.frz 3) (.r (.ix 4 (.call "_law_draw" (.w 0 (.r (.int 11) .nil)))) .nil)))))
  .nil))))))))))⟩
def f__law_can_be_key : Fn := ⟨["_law_thing", "_law_deep_here", "_law_one"], [false, false], [],
  (.cons (.ite (.isi (.var 0) "tuple")
  (.cons (.ret (.and (.p2 .gt (.var 1) (.int 0)) (.p1 .all (.comp false (.call "_law_can_be_key" (.r (.var 2) (.r (.p2 .sub (.var 1) (.int 1)) .nil))) (.n 2) (.ex (.var 0)) .nil))))
  .nil)
  .nil)
  (.cons (.ret (.not (.isi2 (.var 0) "list" "dict")))
  .nil))⟩
def f_law : Fn := ⟨["_law_script", "_law_hand_here", "_law_turn", "_law_piece_here", "_law_thing", "_law_good", "_law_word_here", "_law_times", "_law_tree_here"], [false], [1, 2, 3, 4, 5, 6, 7],
  (.cons (.set 1 (.call "_law_hand" (.r (.var 0) .nil)))
  (.cons (.forS (.n 2) (.rng1 (.int 8))
  (.cons (.set 3 (.call "_law_piece" (.w 1 (.r (.int 4) (.r (.p2 .idx (.lst false (.cons (.int 3) (.cons (.int 8) .nil))) (.call "_law_draw" (.w 1 (.r (.int 2) .nil)))) .nil)))))
  (.cons (.set 4 (.call "_law_bent" (.w 1 (.r (.frz 3) .nil))))
  (.cons (.set 5 (.call "_law_is_piece" (.r (.var 4) .nil)))
  (.cons (.ite (.not (.call "_law_flag" (.r (.call "is_piece" (.r (.var 4) .nil)) (.r (.var 5) .nil))))
  (.cons (.ret (.bl false))
  .nil)
  .nil)
  (.cons (.set 6 (.ite (.var 5) (.str "told") (.str "piece")))
  (.cons (.ite (.or (.p2 .ne (.call "_law_word" (.r (.int 0) (.r (.var 4) (.r .non .nil)))) (.var 6)) (.p2 .ne (.call "_law_word" (.r (.int 1) (.r (.var 4) (.r .non .nil)))) (.var 6)))
  (.cons (.ret (.bl false))
  .nil)
  .nil)
  (.cons (.set 7 (.lst false (.cons (.int 1) (.cons (.int 1000) (.cons (.p2 .add (.int 1) (.call "_law_draw" (.w 1 (.r (.int 60) .nil)))) (.cons (.int 0) (.cons (.int 1001) (.cons (.neg (.int 1)) (.cons (.bl true) (.cons .non (.cons (.str "2") (.cons (.tup (.cons (.int 2) .nil)) (.cons (.p2 .pow (.int 10) (.int 30)) (.cons (.call "_law_deep" .nil) .nil))))))))))))))
  (.cons (.set 7 (.ix 7 (.call "_law_draw" (.w 1 (.r (.int 12) .nil)))))
  (.cons (.ite (.and (.var 5) (.not (.and (.call "_law_is_integer" (.r (.var 7) .nil)) (.cmp2 .le .le (.int 1) (.var 7) (.int 1000)))))
  (.cons (.set 6 (.str "number"))
  .nil)
  .nil)
  (.cons (.ite (.p2 .ne (.call "_law_word" (.r (.int 2) (.r (.var 4) (.r (.var 7) .nil)))) (.var 6))
  (.cons (.ret (.bl false))
  .nil)
  .nil)
  (.cons (.ite (.and (.var 5) (.or (.p2 .ne (.call "piece_size" (.r (.var 4) .nil)) (.p1 .sum (.comp false (.p1 .len (.var 8)) (.n 8) (.ex (.var 4)) .nil))) (.p2 .isnot (.call "is_heap" (.r (.dct1 (.var 4) (.int 1)) .nil)) (.bl true))))
  (.cons (.ret (.bl false))
  .nil)
  .nil)
  (.cons (.ite (.and (.not (.var 5)) (.and (.isi (.var 4) "tuple") (.call "_law_can_be_key" (.r (.var 4) (.r (.int 6) .nil)))))
  (.cons (.ite (.p2 .isnot (.call "is_heap" (.r (.dct1 (.var 4) (.int 1)) .nil)) (.bl false))
  (.cons (.ret (.bl false))
  .nil)
  .nil)
  .nil)
  .nil)
  .nil)))))))))))))
  (.cons (.ret (.bl true))
  .nil)))⟩
def ars : List (Str × Nat) := ("is_integer", 1) :: ("is_between", 3) :: ("check_number", 3) :: ("is_depth_row", 1) :: ("ends_of", 1) :: ("is_in_form", 1) :: ("is_tree", 1) :: ("first_turn", 1) :: ("is_marked_row", 1) :: ("is_piece", 1) :: ("is_heap", 1) :: ("check_piece", 1) :: ("size_of", 1) :: ("piece_size", 1) :: ("period_of", 1) :: ("root_piece", 1) :: ("root_of", 1) :: ("unrolled", 2) :: ("_law_hand", 1) :: ("_law_draw", 2) :: ("_law_flag", 2) :: ("_law_is_integer", 1) :: ("_law_put", 3) :: ("_law_row", 1) :: ("_law_least", 1) :: ("_law_tree", 2) :: ("_law_piece", 3) :: ("_law_branches", 1) :: ("_law_is_tree", 1) :: ("_law_is_piece", 1) :: ("_law_deep", 0) :: ("_law_word", 3) :: ("_law_bent", 2) :: ("_law_can_be_key", 2) :: ("law", 1) :: ("ArrowError", 100) :: ("NoPiece", 100) :: ("NoNumber", 100) :: []
theorem k_is_integer : Fn.ok f_is_integer ars ["thing"] (tp 5) = true := by decide +kernel
theorem k_is_between : Fn.ok f_is_between ars ["thing", "least", "most"] (tp 6) = true := by decide +kernel
theorem k_check_number : Fn.ok f_check_number ars ["thing", "least", "most"] (tp 7) = true := by decide +kernel
theorem k_is_depth_row : Fn.ok f_is_depth_row ars ["thing"] (tp 9) = true := by decide +kernel
theorem k_ends_of : Fn.ok f_ends_of ars ["tree"] (tp 10) = true := by decide +kernel
theorem k_is_in_form : Fn.ok f_is_in_form ars ["tree"] (tp 11) = true := by decide +kernel
theorem k_is_tree : Fn.ok f_is_tree ars ["thing"] (tp 12) = true := by decide +kernel
theorem k_first_turn : Fn.ok f_first_turn ars ["row"] (tp 14) = true := by decide +kernel
theorem k_is_marked_row : Fn.ok f_is_marked_row ars ["thing"] (tp 16) = true := by decide +kernel
theorem k_is_piece : Fn.ok f_is_piece ars ["thing"] (tp 17) = true := by decide +kernel
theorem k_is_heap : Fn.ok f_is_heap ars ["thing"] (tp 18) = true := by decide +kernel
theorem k_check_piece : Fn.ok f_check_piece ars ["thing"] (tp 19) = true := by decide +kernel
theorem k_size_of : Fn.ok f_size_of ars ["row"] (tp 20) = true := by decide +kernel
theorem k_piece_size : Fn.ok f_piece_size ars ["piece"] (tp 21) = true := by decide +kernel
theorem k_period_of : Fn.ok f_period_of ars ["row"] (tp 22) = true := by decide +kernel
theorem k_root_piece : Fn.ok f_root_piece ars ["piece"] (tp 23) = true := by decide +kernel
theorem k_root_of : Fn.ok f_root_of ars ["piece"] (tp 24) = true := by decide +kernel
theorem k_unrolled : Fn.ok f_unrolled ars ["piece", "times"] (tp 25) = true := by decide +kernel
theorem k__law_hand : Fn.ok f__law_hand ars ["_law_script"] (tp 27) = true := by decide +kernel
theorem k__law_draw : Fn.ok f__law_draw ars ["_law_hand_here", "_law_many"] (tp 28) = true := by decide +kernel
theorem k__law_flag : Fn.ok f__law_flag ars ["_law_told", "_law_due"] (tp 29) = true := by decide +kernel
theorem k__law_is_integer : Fn.ok f__law_is_integer ars ["_law_thing"] (tp 30) = true := by decide +kernel
theorem k__law_put : Fn.ok f__law_put ars ["_law_thing", "_law_at", "_law_item"] (tp 31) = true := by decide +kernel
theorem k__law_row : Fn.ok f__law_row ars ["_law_rows"] (tp 32) = true := by decide +kernel
theorem k__law_least : Fn.ok f__law_least ars ["_law_row_here"] (tp 33) = true := by decide +kernel
theorem k__law_tree : Fn.ok f__law_tree ars ["_law_hand_here", "_law_most"] (tp 34) = true := by decide +kernel
theorem k__law_piece : Fn.ok f__law_piece ars ["_law_hand_here", "_law_ring", "_law_most"] (tp 35) = true := by decide +kernel
theorem k__law_branches : Fn.ok f__law_branches ars ["_law_tree_here"] (tp 36) = true := by decide +kernel
theorem k__law_is_tree : Fn.ok f__law_is_tree ars ["_law_thing"] (tp 37) = true := by decide +kernel
theorem k__law_is_piece : Fn.ok f__law_is_piece ars ["_law_thing"] (tp 38) = true := by decide +kernel
theorem k__law_deep : Fn.ok f__law_deep ars [] (tp 39) = true := by decide +kernel
theorem k__law_word : Fn.ok f__law_word ars ["_law_kind", "_law_thing", "_law_times"] (tp 40) = true := by decide +kernel
theorem k__law_bent : Fn.ok f__law_bent ars ["_law_hand_here", "_law_piece_here"] (tp 41) = true := by decide +kernel
theorem k__law_can_be_key : Fn.ok f__law_can_be_key ars ["_law_thing", "_law_deep_here"] (tp 42) = true := by decide +kernel
theorem k_law : Fn.ok f_law ars ["_law_script"] (tp 43) = true := by decide +kernel
end Oa

namespace Oa
open PySem PySem.Spec PyProof.Rows L2
def h_is_integer : He.DefD := ⟨("is_integer", none), "is_integer", "is_integer", defArgs (tp 5), defBody (tp 5), defScope (tp 5), [], []⟩
def h_is_between : He.DefD := ⟨("is_between", none), "is_between", "is_between", defArgs (tp 6), defBody (tp 6), defScope (tp 6), [], []⟩
def h_check_number : He.DefD := ⟨("check_number", none), "check_number", "check_number", defArgs (tp 7), defBody (tp 7), defScope (tp 7), [], []⟩
def h_is_depth_row : He.DefD := ⟨("is_depth_row", none), "is_depth_row", "is_depth_row", defArgs (tp 9), defBody (tp 9), defScope (tp 9), [], []⟩
def h_ends_of : He.DefD := ⟨("ends_of", none), "ends_of", "ends_of", defArgs (tp 10), defBody (tp 10), defScope (tp 10), [], []⟩
def h_is_in_form : He.DefD := ⟨("is_in_form", none), "is_in_form", "is_in_form", defArgs (tp 11), defBody (tp 11), defScope (tp 11), [], []⟩
def h_is_tree : He.DefD := ⟨("is_tree", none), "is_tree", "is_tree", defArgs (tp 12), defBody (tp 12), defScope (tp 12), [], []⟩
def h_first_turn : He.DefD := ⟨("first_turn", none), "first_turn", "first_turn", defArgs (tp 14), defBody (tp 14), defScope (tp 14), [], []⟩
def h_is_marked_row : He.DefD := ⟨("is_marked_row", none), "is_marked_row", "is_marked_row", defArgs (tp 16), defBody (tp 16), defScope (tp 16), [], []⟩
def h_is_piece : He.DefD := ⟨("is_piece", none), "is_piece", "is_piece", defArgs (tp 17), defBody (tp 17), defScope (tp 17), [], []⟩
def h_is_heap : He.DefD := ⟨("is_heap", none), "is_heap", "is_heap", defArgs (tp 18), defBody (tp 18), defScope (tp 18), [], []⟩
def h_check_piece : He.DefD := ⟨("check_piece", none), "check_piece", "check_piece", defArgs (tp 19), defBody (tp 19), defScope (tp 19), [], []⟩
def h_size_of : He.DefD := ⟨("size_of", none), "size_of", "size_of", defArgs (tp 20), defBody (tp 20), defScope (tp 20), [], []⟩
def h_piece_size : He.DefD := ⟨("piece_size", none), "piece_size", "piece_size", defArgs (tp 21), defBody (tp 21), defScope (tp 21), [], []⟩
def h_period_of : He.DefD := ⟨("period_of", none), "period_of", "period_of", defArgs (tp 22), defBody (tp 22), defScope (tp 22), [], []⟩
def h_root_piece : He.DefD := ⟨("root_piece", none), "root_piece", "root_piece", defArgs (tp 23), defBody (tp 23), defScope (tp 23), [], []⟩
def h_root_of : He.DefD := ⟨("root_of", none), "root_of", "root_of", defArgs (tp 24), defBody (tp 24), defScope (tp 24), [], []⟩
def h_unrolled : He.DefD := ⟨("unrolled", none), "unrolled", "unrolled", defArgs (tp 25), defBody (tp 25), defScope (tp 25), [], []⟩
def h__law_hand : He.DefD := ⟨("_law_hand", none), "_law_hand", "_law_hand", defArgs (tp 27), defBody (tp 27), defScope (tp 27), [], []⟩
def h__law_draw : He.DefD := ⟨("_law_draw", none), "_law_draw", "_law_draw", defArgs (tp 28), defBody (tp 28), defScope (tp 28), [], []⟩
def h__law_flag : He.DefD := ⟨("_law_flag", none), "_law_flag", "_law_flag", defArgs (tp 29), defBody (tp 29), defScope (tp 29), [], []⟩
def h__law_is_integer : He.DefD := ⟨("_law_is_integer", none), "_law_is_integer", "_law_is_integer", defArgs (tp 30), defBody (tp 30), defScope (tp 30), [], []⟩
def h__law_put : He.DefD := ⟨("_law_put", none), "_law_put", "_law_put", defArgs (tp 31), defBody (tp 31), defScope (tp 31), [], []⟩
def h__law_row : He.DefD := ⟨("_law_row", none), "_law_row", "_law_row", defArgs (tp 32), defBody (tp 32), defScope (tp 32), [], []⟩
def h__law_least : He.DefD := ⟨("_law_least", none), "_law_least", "_law_least", defArgs (tp 33), defBody (tp 33), defScope (tp 33), [], []⟩
def h__law_tree : He.DefD := ⟨("_law_tree", none), "_law_tree", "_law_tree", defArgs (tp 34), defBody (tp 34), defScope (tp 34), [], []⟩
def h__law_piece : He.DefD := ⟨("_law_piece", none), "_law_piece", "_law_piece", defArgs (tp 35), defBody (tp 35), defScope (tp 35), [], []⟩
def h__law_branches : He.DefD := ⟨("_law_branches", none), "_law_branches", "_law_branches", defArgs (tp 36), defBody (tp 36), defScope (tp 36), [], []⟩
def h__law_is_tree : He.DefD := ⟨("_law_is_tree", none), "_law_is_tree", "_law_is_tree", defArgs (tp 37), defBody (tp 37), defScope (tp 37), [], []⟩
def h__law_is_piece : He.DefD := ⟨("_law_is_piece", none), "_law_is_piece", "_law_is_piece", defArgs (tp 38), defBody (tp 38), defScope (tp 38), [], []⟩
def h__law_deep : He.DefD := ⟨("_law_deep", none), "_law_deep", "_law_deep", defArgs (tp 39), defBody (tp 39), defScope (tp 39), [], []⟩
def h__law_word : He.DefD := ⟨("_law_word", none), "_law_word", "_law_word", defArgs (tp 40), defBody (tp 40), defScope (tp 40), [], []⟩
def h__law_bent : He.DefD := ⟨("_law_bent", none), "_law_bent", "_law_bent", defArgs (tp 41), defBody (tp 41), defScope (tp 41), [], []⟩
def h__law_can_be_key : He.DefD := ⟨("_law_can_be_key", none), "_law_can_be_key", "_law_can_be_key", defArgs (tp 42), defBody (tp 42), defScope (tp 42), [], []⟩
def h_law : He.DefD := ⟨("law", none), "law", "law", defArgs (tp 43), defBody (tp 43), defScope (tp 43), [], []⟩
def hfn : List He.DefD := [h_is_integer, h_is_between, h_check_number, h_is_depth_row, h_ends_of, h_is_in_form, h_is_tree, h_first_turn, h_is_marked_row, h_is_piece, h_is_heap, h_check_piece, h_size_of, h_piece_size, h_period_of, h_root_piece, h_root_of, h_unrolled, h__law_hand, h__law_draw, h__law_flag, h__law_is_integer, h__law_put, h__law_row, h__law_least, h__law_tree, h__law_piece, h__law_branches, h__law_is_tree, h__law_is_piece, h__law_deep, h__law_word, h__law_bent, h__law_can_be_key, h_law]
def hfa : List He.Fa := [.glo "is_integer", .glo "is_between", .glo "check_number", .glo "is_depth_row", .glo "ends_of", .glo "is_in_form", .glo "is_tree", .glo "first_turn", .glo "is_marked_row", .glo "is_piece", .glo "is_heap", .glo "check_piece", .glo "size_of", .glo "piece_size", .glo "period_of", .glo "root_piece", .glo "root_of", .glo "unrolled", .glo "_law_hand", .glo "_law_draw", .glo "_law_flag", .glo "_law_is_integer", .glo "_law_put", .glo "_law_row", .glo "_law_least", .glo "_law_tree", .glo "_law_piece", .glo "_law_branches", .glo "_law_is_tree", .glo "_law_is_piece", .glo "_law_deep", .glo "_law_word", .glo "_law_bent", .glo "_law_can_be_key", .glo "law", .free "len", .free "int", .free "abs", .free "list", .free "tuple", .free "sorted", .free "sum", .free "all", .free "any", .free "range", .free "enumerate", .free "zip", .free "isinstance", .free "bool", .free "str", .free "dict", .free "min", .free "max", .free "repr", .glo "ArrowError", .glo "NoPiece", .glo "NoNumber", .exc "ArrowError", .exc "NoPiece", .exc "NoNumber", .exm "ArrowError" "ArrowError" true, .exm "ArrowError" "NoPiece" false, .exm "ArrowError" "NoNumber" false, .exm "NoPiece" "ArrowError" true, .exm "NoPiece" "NoPiece" true, .exm "NoPiece" "NoNumber" false, .exm "NoNumber" "ArrowError" true, .exm "NoNumber" "NoPiece" false, .exm "NoNumber" "NoNumber" true]
abbrev hR : PySem.W.OpenRow := PySem.W.OpenLaw.row PySem.Challenge.rw_onearrow_k07_pieces_judged
abbrev hk : PySem.W.Hook := He.hookD 4 hfa hfn
def hob (s : PySem.W.SharedT) : He.AlD := He.obsDG 4 hfa hfn (HandSHeadRun.getT s)
theorem hob_eq (s : PySem.W.SharedT) : hob s = hk.obs s.abs := He.obsDG_eq (HandSHeadRun.getT_eq s)
theorem hrun (w : World) : HandSHeadRun.RunEq hR (PySem.W.view hR.prog [43]) hk hob 6000 ("ArrowError" :: "NoPiece" :: "NoNumber" :: "is_integer" :: "is_between" :: "check_number" :: "is_depth_row" :: "ends_of" :: "is_in_form" :: "is_tree" :: "first_turn" :: "is_marked_row" :: "is_piece" :: "is_heap" :: "check_piece" :: "size_of" :: "piece_size" :: "period_of" :: "root_piece" :: "root_of" :: "unrolled" :: "_law_hand" :: "_law_draw" :: "_law_flag" :: "_law_is_integer" :: "_law_put" :: "_law_row" :: "_law_least" :: "_law_tree" :: "_law_piece" :: "_law_branches" :: "_law_is_tree" :: "_law_is_piece" :: "_law_deep" :: "_law_word" :: "_law_bent" :: "_law_can_be_key" :: []) w := by
  intro os
  kernel_rfl
end Oa

namespace Oa
open PySem PySem.Spec PyProof.Rows L2
def tab : List (Str × Fn) := ("is_integer", f_is_integer) :: ("is_between", f_is_between) :: ("check_number", f_check_number) :: ("is_depth_row", f_is_depth_row) :: ("ends_of", f_ends_of) :: ("is_in_form", f_is_in_form) :: ("is_tree", f_is_tree) :: ("first_turn", f_first_turn) :: ("is_marked_row", f_is_marked_row) :: ("is_piece", f_is_piece) :: ("is_heap", f_is_heap) :: ("check_piece", f_check_piece) :: ("size_of", f_size_of) :: ("piece_size", f_piece_size) :: ("period_of", f_period_of) :: ("root_piece", f_root_piece) :: ("root_of", f_root_of) :: ("unrolled", f_unrolled) :: ("_law_hand", f__law_hand) :: ("_law_draw", f__law_draw) :: ("_law_flag", f__law_flag) :: ("_law_is_integer", f__law_is_integer) :: ("_law_put", f__law_put) :: ("_law_row", f__law_row) :: ("_law_least", f__law_least) :: ("_law_tree", f__law_tree) :: ("_law_piece", f__law_piece) :: ("_law_branches", f__law_branches) :: ("_law_is_tree", f__law_is_tree) :: ("_law_is_piece", f__law_is_piece) :: ("_law_deep", f__law_deep) :: ("_law_word", f__law_word) :: ("_law_bent", f__law_bent) :: ("_law_can_be_key", f__law_can_be_key) :: ("law", f_law) :: []
def cs0 : Str → Option D := fun _ => none
def fuel : Nat := 100000
def lev : Nat → CfT
  | 0 => fun _ _ => .bad
  | n + 1 => fun f ks => match tab.lookup f with
    | some fn => fnF (lev n) cs0 fuel fn ks
    | none => .bad
theorem lookup_in {α : Type} {x : Str} {v : α} : ∀ {l : List (Str × α)}, l.lookup x = some v → (x, v) ∈ l
  | [], h => by simp at h
  | (y, u) :: r, h => by
    rw [List.lookup_cons] at h
    split at h
    · rename_i e
      have e2 : x = y := eq_of_beq e
      simp only [Option.some.injEq] at h
      subst e2 h
      exact List.mem_cons_self
    · exact List.mem_cons_of_mem _ (lookup_in h)
section
variable {P : Program} {w : World} {K : PySem.W.Frag} {mg : Str → Option Value} {base h : Heap}
/-- a def by its place -/
structure Dn (P : Program) (w : World) (K : PySem.W.Frag) (mg : Str → Option Value) (base : Heap) (lv : Nat → CfT) (f : Str) (n : Nat) : Prop where
  ex : ∃ (fa : Addr) (fd : FuncData) (ps : List Str), ps.length = n ∧ mg f = some (.ref fa) ∧ PySem.W.keepIn K (.ref fa) = true ∧ Binds K fd ps [] ∧ (∀ k, Mod P w K mg base k ars (lv k) cs0 → FnOk P w K mg base (L2.CX P w) (k + 1) fa fd ps (spF K w mg n (lv (k + 1) f)))
theorem d_is_integer (X : K.In h) (G : h.Ns mainGlobals mg) (c : He.SaysD hfa hfn K) : Dn P w K mg base lev "is_integer" 1 := by
  obtain ⟨fd, hF⟩ := c.def_ 0 (d := h_is_integer) rfl
  exact ⟨_, fd, ["thing"], rfl, He.glo_ok X G (c.fact 0 (f := .glo "is_integer") rfl), hF.kp, FunD.bindsN hF fun _ _ _ _ _ _ us hl => match us, hl with | [_], _ => rfl, fun k hM => fn_ok hM hF k_is_integer⟩
theorem d_is_between (X : K.In h) (G : h.Ns mainGlobals mg) (c : He.SaysD hfa hfn K) : Dn P w K mg base lev "is_between" 3 := by
  obtain ⟨fd, hF⟩ := c.def_ 1 (d := h_is_between) rfl
  exact ⟨_, fd, ["thing", "least", "most"], rfl, He.glo_ok X G (c.fact 1 (f := .glo "is_between") rfl), hF.kp, FunD.bindsN hF fun _ _ _ _ _ _ us hl => match us, hl with | [_, _, _], _ => rfl, fun k hM => fn_ok hM hF k_is_between⟩
theorem d_check_number (X : K.In h) (G : h.Ns mainGlobals mg) (c : He.SaysD hfa hfn K) : Dn P w K mg base lev "check_number" 3 := by
  obtain ⟨fd, hF⟩ := c.def_ 2 (d := h_check_number) rfl
  exact ⟨_, fd, ["thing", "least", "most"], rfl, He.glo_ok X G (c.fact 2 (f := .glo "check_number") rfl), hF.kp, FunD.bindsN hF fun _ _ _ _ _ _ us hl => match us, hl with | [_, _, _], _ => rfl, fun k hM => fn_ok hM hF k_check_number⟩
theorem d_is_depth_row (X : K.In h) (G : h.Ns mainGlobals mg) (c : He.SaysD hfa hfn K) : Dn P w K mg base lev "is_depth_row" 1 := by
  obtain ⟨fd, hF⟩ := c.def_ 3 (d := h_is_depth_row) rfl
  exact ⟨_, fd, ["thing"], rfl, He.glo_ok X G (c.fact 3 (f := .glo "is_depth_row") rfl), hF.kp, FunD.bindsN hF fun _ _ _ _ _ _ us hl => match us, hl with | [_], _ => rfl, fun k hM => fn_ok hM hF k_is_depth_row⟩
theorem d_ends_of (X : K.In h) (G : h.Ns mainGlobals mg) (c : He.SaysD hfa hfn K) : Dn P w K mg base lev "ends_of" 1 := by
  obtain ⟨fd, hF⟩ := c.def_ 4 (d := h_ends_of) rfl
  exact ⟨_, fd, ["tree"], rfl, He.glo_ok X G (c.fact 4 (f := .glo "ends_of") rfl), hF.kp, FunD.bindsN hF fun _ _ _ _ _ _ us hl => match us, hl with | [_], _ => rfl, fun k hM => fn_ok hM hF k_ends_of⟩
theorem d_is_in_form (X : K.In h) (G : h.Ns mainGlobals mg) (c : He.SaysD hfa hfn K) : Dn P w K mg base lev "is_in_form" 1 := by
  obtain ⟨fd, hF⟩ := c.def_ 5 (d := h_is_in_form) rfl
  exact ⟨_, fd, ["tree"], rfl, He.glo_ok X G (c.fact 5 (f := .glo "is_in_form") rfl), hF.kp, FunD.bindsN hF fun _ _ _ _ _ _ us hl => match us, hl with | [_], _ => rfl, fun k hM => fn_ok hM hF k_is_in_form⟩
theorem d_is_tree (X : K.In h) (G : h.Ns mainGlobals mg) (c : He.SaysD hfa hfn K) : Dn P w K mg base lev "is_tree" 1 := by
  obtain ⟨fd, hF⟩ := c.def_ 6 (d := h_is_tree) rfl
  exact ⟨_, fd, ["thing"], rfl, He.glo_ok X G (c.fact 6 (f := .glo "is_tree") rfl), hF.kp, FunD.bindsN hF fun _ _ _ _ _ _ us hl => match us, hl with | [_], _ => rfl, fun k hM => fn_ok hM hF k_is_tree⟩
theorem d_first_turn (X : K.In h) (G : h.Ns mainGlobals mg) (c : He.SaysD hfa hfn K) : Dn P w K mg base lev "first_turn" 1 := by
  obtain ⟨fd, hF⟩ := c.def_ 7 (d := h_first_turn) rfl
  exact ⟨_, fd, ["row"], rfl, He.glo_ok X G (c.fact 7 (f := .glo "first_turn") rfl), hF.kp, FunD.bindsN hF fun _ _ _ _ _ _ us hl => match us, hl with | [_], _ => rfl, fun k hM => fn_ok hM hF k_first_turn⟩
theorem d_is_marked_row (X : K.In h) (G : h.Ns mainGlobals mg) (c : He.SaysD hfa hfn K) : Dn P w K mg base lev "is_marked_row" 1 := by
  obtain ⟨fd, hF⟩ := c.def_ 8 (d := h_is_marked_row) rfl
  exact ⟨_, fd, ["thing"], rfl, He.glo_ok X G (c.fact 8 (f := .glo "is_marked_row") rfl), hF.kp, FunD.bindsN hF fun _ _ _ _ _ _ us hl => match us, hl with | [_], _ => rfl, fun k hM => fn_ok hM hF k_is_marked_row⟩
theorem d_is_piece (X : K.In h) (G : h.Ns mainGlobals mg) (c : He.SaysD hfa hfn K) : Dn P w K mg base lev "is_piece" 1 := by
  obtain ⟨fd, hF⟩ := c.def_ 9 (d := h_is_piece) rfl
  exact ⟨_, fd, ["thing"], rfl, He.glo_ok X G (c.fact 9 (f := .glo "is_piece") rfl), hF.kp, FunD.bindsN hF fun _ _ _ _ _ _ us hl => match us, hl with | [_], _ => rfl, fun k hM => fn_ok hM hF k_is_piece⟩
theorem d_is_heap (X : K.In h) (G : h.Ns mainGlobals mg) (c : He.SaysD hfa hfn K) : Dn P w K mg base lev "is_heap" 1 := by
  obtain ⟨fd, hF⟩ := c.def_ 10 (d := h_is_heap) rfl
  exact ⟨_, fd, ["thing"], rfl, He.glo_ok X G (c.fact 10 (f := .glo "is_heap") rfl), hF.kp, FunD.bindsN hF fun _ _ _ _ _ _ us hl => match us, hl with | [_], _ => rfl, fun k hM => fn_ok hM hF k_is_heap⟩
theorem d_check_piece (X : K.In h) (G : h.Ns mainGlobals mg) (c : He.SaysD hfa hfn K) : Dn P w K mg base lev "check_piece" 1 := by
  obtain ⟨fd, hF⟩ := c.def_ 11 (d := h_check_piece) rfl
  exact ⟨_, fd, ["thing"], rfl, He.glo_ok X G (c.fact 11 (f := .glo "check_piece") rfl), hF.kp, FunD.bindsN hF fun _ _ _ _ _ _ us hl => match us, hl with | [_], _ => rfl, fun k hM => fn_ok hM hF k_check_piece⟩
theorem d_size_of (X : K.In h) (G : h.Ns mainGlobals mg) (c : He.SaysD hfa hfn K) : Dn P w K mg base lev "size_of" 1 := by
  obtain ⟨fd, hF⟩ := c.def_ 12 (d := h_size_of) rfl
  exact ⟨_, fd, ["row"], rfl, He.glo_ok X G (c.fact 12 (f := .glo "size_of") rfl), hF.kp, FunD.bindsN hF fun _ _ _ _ _ _ us hl => match us, hl with | [_], _ => rfl, fun k hM => fn_ok hM hF k_size_of⟩
theorem d_piece_size (X : K.In h) (G : h.Ns mainGlobals mg) (c : He.SaysD hfa hfn K) : Dn P w K mg base lev "piece_size" 1 := by
  obtain ⟨fd, hF⟩ := c.def_ 13 (d := h_piece_size) rfl
  exact ⟨_, fd, ["piece"], rfl, He.glo_ok X G (c.fact 13 (f := .glo "piece_size") rfl), hF.kp, FunD.bindsN hF fun _ _ _ _ _ _ us hl => match us, hl with | [_], _ => rfl, fun k hM => fn_ok hM hF k_piece_size⟩
theorem d_period_of (X : K.In h) (G : h.Ns mainGlobals mg) (c : He.SaysD hfa hfn K) : Dn P w K mg base lev "period_of" 1 := by
  obtain ⟨fd, hF⟩ := c.def_ 14 (d := h_period_of) rfl
  exact ⟨_, fd, ["row"], rfl, He.glo_ok X G (c.fact 14 (f := .glo "period_of") rfl), hF.kp, FunD.bindsN hF fun _ _ _ _ _ _ us hl => match us, hl with | [_], _ => rfl, fun k hM => fn_ok hM hF k_period_of⟩
theorem d_root_piece (X : K.In h) (G : h.Ns mainGlobals mg) (c : He.SaysD hfa hfn K) : Dn P w K mg base lev "root_piece" 1 := by
  obtain ⟨fd, hF⟩ := c.def_ 15 (d := h_root_piece) rfl
  exact ⟨_, fd, ["piece"], rfl, He.glo_ok X G (c.fact 15 (f := .glo "root_piece") rfl), hF.kp, FunD.bindsN hF fun _ _ _ _ _ _ us hl => match us, hl with | [_], _ => rfl, fun k hM => fn_ok hM hF k_root_piece⟩
theorem d_root_of (X : K.In h) (G : h.Ns mainGlobals mg) (c : He.SaysD hfa hfn K) : Dn P w K mg base lev "root_of" 1 := by
  obtain ⟨fd, hF⟩ := c.def_ 16 (d := h_root_of) rfl
  exact ⟨_, fd, ["piece"], rfl, He.glo_ok X G (c.fact 16 (f := .glo "root_of") rfl), hF.kp, FunD.bindsN hF fun _ _ _ _ _ _ us hl => match us, hl with | [_], _ => rfl, fun k hM => fn_ok hM hF k_root_of⟩
theorem d_unrolled (X : K.In h) (G : h.Ns mainGlobals mg) (c : He.SaysD hfa hfn K) : Dn P w K mg base lev "unrolled" 2 := by
  obtain ⟨fd, hF⟩ := c.def_ 17 (d := h_unrolled) rfl
  exact ⟨_, fd, ["piece", "times"], rfl, He.glo_ok X G (c.fact 17 (f := .glo "unrolled") rfl), hF.kp, FunD.bindsN hF fun _ _ _ _ _ _ us hl => match us, hl with | [_, _], _ => rfl, fun k hM => fn_ok hM hF k_unrolled⟩
theorem d__law_hand (X : K.In h) (G : h.Ns mainGlobals mg) (c : He.SaysD hfa hfn K) : Dn P w K mg base lev "_law_hand" 1 := by
  obtain ⟨fd, hF⟩ := c.def_ 18 (d := h__law_hand) rfl
  exact ⟨_, fd, ["_law_script"], rfl, He.glo_ok X G (c.fact 18 (f := .glo "_law_hand") rfl), hF.kp, FunD.bindsN hF fun _ _ _ _ _ _ us hl => match us, hl with | [_], _ => rfl, fun k hM => fn_ok hM hF k__law_hand⟩
theorem d__law_draw (X : K.In h) (G : h.Ns mainGlobals mg) (c : He.SaysD hfa hfn K) : Dn P w K mg base lev "_law_draw" 2 := by
  obtain ⟨fd, hF⟩ := c.def_ 19 (d := h__law_draw) rfl
  exact ⟨_, fd, ["_law_hand_here", "_law_many"], rfl, He.glo_ok X G (c.fact 19 (f := .glo "_law_draw") rfl), hF.kp, FunD.bindsN hF fun _ _ _ _ _ _ us hl => match us, hl with | [_, _], _ => rfl, fun k hM => fn_ok hM hF k__law_draw⟩
theorem d__law_flag (X : K.In h) (G : h.Ns mainGlobals mg) (c : He.SaysD hfa hfn K) : Dn P w K mg base lev "_law_flag" 2 := by
  obtain ⟨fd, hF⟩ := c.def_ 20 (d := h__law_flag) rfl
  exact ⟨_, fd, ["_law_told", "_law_due"], rfl, He.glo_ok X G (c.fact 20 (f := .glo "_law_flag") rfl), hF.kp, FunD.bindsN hF fun _ _ _ _ _ _ us hl => match us, hl with | [_, _], _ => rfl, fun k hM => fn_ok hM hF k__law_flag⟩
theorem d__law_is_integer (X : K.In h) (G : h.Ns mainGlobals mg) (c : He.SaysD hfa hfn K) : Dn P w K mg base lev "_law_is_integer" 1 := by
  obtain ⟨fd, hF⟩ := c.def_ 21 (d := h__law_is_integer) rfl
  exact ⟨_, fd, ["_law_thing"], rfl, He.glo_ok X G (c.fact 21 (f := .glo "_law_is_integer") rfl), hF.kp, FunD.bindsN hF fun _ _ _ _ _ _ us hl => match us, hl with | [_], _ => rfl, fun k hM => fn_ok hM hF k__law_is_integer⟩
theorem d__law_put (X : K.In h) (G : h.Ns mainGlobals mg) (c : He.SaysD hfa hfn K) : Dn P w K mg base lev "_law_put" 3 := by
  obtain ⟨fd, hF⟩ := c.def_ 22 (d := h__law_put) rfl
  exact ⟨_, fd, ["_law_thing", "_law_at", "_law_item"], rfl, He.glo_ok X G (c.fact 22 (f := .glo "_law_put") rfl), hF.kp, FunD.bindsN hF fun _ _ _ _ _ _ us hl => match us, hl with | [_, _, _], _ => rfl, fun k hM => fn_ok hM hF k__law_put⟩
theorem d__law_row (X : K.In h) (G : h.Ns mainGlobals mg) (c : He.SaysD hfa hfn K) : Dn P w K mg base lev "_law_row" 1 := by
  obtain ⟨fd, hF⟩ := c.def_ 23 (d := h__law_row) rfl
  exact ⟨_, fd, ["_law_rows"], rfl, He.glo_ok X G (c.fact 23 (f := .glo "_law_row") rfl), hF.kp, FunD.bindsN hF fun _ _ _ _ _ _ us hl => match us, hl with | [_], _ => rfl, fun k hM => fn_ok hM hF k__law_row⟩
theorem d__law_least (X : K.In h) (G : h.Ns mainGlobals mg) (c : He.SaysD hfa hfn K) : Dn P w K mg base lev "_law_least" 1 := by
  obtain ⟨fd, hF⟩ := c.def_ 24 (d := h__law_least) rfl
  exact ⟨_, fd, ["_law_row_here"], rfl, He.glo_ok X G (c.fact 24 (f := .glo "_law_least") rfl), hF.kp, FunD.bindsN hF fun _ _ _ _ _ _ us hl => match us, hl with | [_], _ => rfl, fun k hM => fn_ok hM hF k__law_least⟩
theorem d__law_tree (X : K.In h) (G : h.Ns mainGlobals mg) (c : He.SaysD hfa hfn K) : Dn P w K mg base lev "_law_tree" 2 := by
  obtain ⟨fd, hF⟩ := c.def_ 25 (d := h__law_tree) rfl
  exact ⟨_, fd, ["_law_hand_here", "_law_most"], rfl, He.glo_ok X G (c.fact 25 (f := .glo "_law_tree") rfl), hF.kp, FunD.bindsN hF fun _ _ _ _ _ _ us hl => match us, hl with | [_, _], _ => rfl, fun k hM => fn_ok hM hF k__law_tree⟩
theorem d__law_piece (X : K.In h) (G : h.Ns mainGlobals mg) (c : He.SaysD hfa hfn K) : Dn P w K mg base lev "_law_piece" 3 := by
  obtain ⟨fd, hF⟩ := c.def_ 26 (d := h__law_piece) rfl
  exact ⟨_, fd, ["_law_hand_here", "_law_ring", "_law_most"], rfl, He.glo_ok X G (c.fact 26 (f := .glo "_law_piece") rfl), hF.kp, FunD.bindsN hF fun _ _ _ _ _ _ us hl => match us, hl with | [_, _, _], _ => rfl, fun k hM => fn_ok hM hF k__law_piece⟩
theorem d__law_branches (X : K.In h) (G : h.Ns mainGlobals mg) (c : He.SaysD hfa hfn K) : Dn P w K mg base lev "_law_branches" 1 := by
  obtain ⟨fd, hF⟩ := c.def_ 27 (d := h__law_branches) rfl
  exact ⟨_, fd, ["_law_tree_here"], rfl, He.glo_ok X G (c.fact 27 (f := .glo "_law_branches") rfl), hF.kp, FunD.bindsN hF fun _ _ _ _ _ _ us hl => match us, hl with | [_], _ => rfl, fun k hM => fn_ok hM hF k__law_branches⟩
theorem d__law_is_tree (X : K.In h) (G : h.Ns mainGlobals mg) (c : He.SaysD hfa hfn K) : Dn P w K mg base lev "_law_is_tree" 1 := by
  obtain ⟨fd, hF⟩ := c.def_ 28 (d := h__law_is_tree) rfl
  exact ⟨_, fd, ["_law_thing"], rfl, He.glo_ok X G (c.fact 28 (f := .glo "_law_is_tree") rfl), hF.kp, FunD.bindsN hF fun _ _ _ _ _ _ us hl => match us, hl with | [_], _ => rfl, fun k hM => fn_ok hM hF k__law_is_tree⟩
theorem d__law_is_piece (X : K.In h) (G : h.Ns mainGlobals mg) (c : He.SaysD hfa hfn K) : Dn P w K mg base lev "_law_is_piece" 1 := by
  obtain ⟨fd, hF⟩ := c.def_ 29 (d := h__law_is_piece) rfl
  exact ⟨_, fd, ["_law_thing"], rfl, He.glo_ok X G (c.fact 29 (f := .glo "_law_is_piece") rfl), hF.kp, FunD.bindsN hF fun _ _ _ _ _ _ us hl => match us, hl with | [_], _ => rfl, fun k hM => fn_ok hM hF k__law_is_piece⟩
theorem d__law_deep (X : K.In h) (G : h.Ns mainGlobals mg) (c : He.SaysD hfa hfn K) : Dn P w K mg base lev "_law_deep" 0 := by
  obtain ⟨fd, hF⟩ := c.def_ 30 (d := h__law_deep) rfl
  exact ⟨_, fd, [], rfl, He.glo_ok X G (c.fact 30 (f := .glo "_law_deep") rfl), hF.kp, FunD.bindsN hF fun _ _ _ _ _ _ us hl => match us, hl with | [], _ => rfl, fun k hM => fn_ok hM hF k__law_deep⟩
theorem d__law_word (X : K.In h) (G : h.Ns mainGlobals mg) (c : He.SaysD hfa hfn K) : Dn P w K mg base lev "_law_word" 3 := by
  obtain ⟨fd, hF⟩ := c.def_ 31 (d := h__law_word) rfl
  exact ⟨_, fd, ["_law_kind", "_law_thing", "_law_times"], rfl, He.glo_ok X G (c.fact 31 (f := .glo "_law_word") rfl), hF.kp, FunD.bindsN hF fun _ _ _ _ _ _ us hl => match us, hl with | [_, _, _], _ => rfl, fun k hM => fn_ok hM hF k__law_word⟩
theorem d__law_bent (X : K.In h) (G : h.Ns mainGlobals mg) (c : He.SaysD hfa hfn K) : Dn P w K mg base lev "_law_bent" 2 := by
  obtain ⟨fd, hF⟩ := c.def_ 32 (d := h__law_bent) rfl
  exact ⟨_, fd, ["_law_hand_here", "_law_piece_here"], rfl, He.glo_ok X G (c.fact 32 (f := .glo "_law_bent") rfl), hF.kp, FunD.bindsN hF fun _ _ _ _ _ _ us hl => match us, hl with | [_, _], _ => rfl, fun k hM => fn_ok hM hF k__law_bent⟩
theorem d__law_can_be_key (X : K.In h) (G : h.Ns mainGlobals mg) (c : He.SaysD hfa hfn K) : Dn P w K mg base lev "_law_can_be_key" 2 := by
  obtain ⟨fd, hF⟩ := c.def_ 33 (d := h__law_can_be_key) rfl
  exact ⟨_, fd, ["_law_thing", "_law_deep_here"], rfl, He.glo_ok X G (c.fact 33 (f := .glo "_law_can_be_key") rfl), hF.kp, FunD.bindsN hF fun _ _ _ _ _ _ us hl => match us, hl with | [_, _], _ => rfl, fun k hM => fn_ok hM hF k__law_can_be_key⟩
theorem d_law (X : K.In h) (G : h.Ns mainGlobals mg) (c : He.SaysD hfa hfn K) : Dn P w K mg base lev "law" 1 := by
  obtain ⟨fd, hF⟩ := c.def_ 34 (d := h_law) rfl
  exact ⟨_, fd, ["_law_script"], rfl, He.glo_ok X G (c.fact 34 (f := .glo "law") rfl), hF.kp, FunD.bindsN hF fun _ _ _ _ _ _ us hl => match us, hl with | [_], _ => rfl, fun k hM => fn_ok hM hF k_law⟩
theorem bi_ok (X : K.In h) (G : h.Ns mainGlobals mg) (c : He.SaysD hfa hfn K) : ∀ x ∈ bis, mg x = none := by
  intro x hx
  simp only [bis, List.mem_cons, List.not_mem_nil, or_false] at hx
  rcases hx with rfl | rfl | rfl | rfl | rfl | rfl | rfl | rfl | rfl | rfl | rfl | rfl | rfl | rfl | rfl | rfl | rfl | rfl | rfl
  · exact He.free_ok X G (c.fact 35 (f := .free "len") rfl)
  · exact He.free_ok X G (c.fact 36 (f := .free "int") rfl)
  · exact He.free_ok X G (c.fact 37 (f := .free "abs") rfl)
  · exact He.free_ok X G (c.fact 38 (f := .free "list") rfl)
  · exact He.free_ok X G (c.fact 39 (f := .free "tuple") rfl)
  · exact He.free_ok X G (c.fact 40 (f := .free "sorted") rfl)
  · exact He.free_ok X G (c.fact 41 (f := .free "sum") rfl)
  · exact He.free_ok X G (c.fact 42 (f := .free "all") rfl)
  · exact He.free_ok X G (c.fact 43 (f := .free "any") rfl)
  · exact He.free_ok X G (c.fact 44 (f := .free "range") rfl)
  · exact He.free_ok X G (c.fact 45 (f := .free "enumerate") rfl)
  · exact He.free_ok X G (c.fact 46 (f := .free "zip") rfl)
  · exact He.free_ok X G (c.fact 47 (f := .free "isinstance") rfl)
  · exact He.free_ok X G (c.fact 48 (f := .free "bool") rfl)
  · exact He.free_ok X G (c.fact 49 (f := .free "str") rfl)
  · exact He.free_ok X G (c.fact 50 (f := .free "dict") rfl)
  · exact He.free_ok X G (c.fact 51 (f := .free "min") rfl)
  · exact He.free_ok X G (c.fact 52 (f := .free "max") rfl)
  · exact He.free_ok X G (c.fact 53 (f := .free "repr") rfl)
theorem dn_ok (X : K.In h) (G : h.Ns mainGlobals mg) (c : He.SaysD hfa hfn K) : ∀ f n, ars.lookup f = some n → n < 100 → Dn P w K mg base lev f n := by
  intro f n e hn
  have e := lookup_in e
  simp only [ars, List.mem_cons, List.not_mem_nil, or_false, Prod.mk.injEq] at e
  rcases e with ⟨rfl, rfl⟩ | ⟨rfl, rfl⟩ | ⟨rfl, rfl⟩ | ⟨rfl, rfl⟩ | ⟨rfl, rfl⟩ | ⟨rfl, rfl⟩ | ⟨rfl, rfl⟩ | ⟨rfl, rfl⟩ | ⟨rfl, rfl⟩ | ⟨rfl, rfl⟩ | ⟨rfl, rfl⟩ | ⟨rfl, rfl⟩ | ⟨rfl, rfl⟩ | ⟨rfl, rfl⟩ | ⟨rfl, rfl⟩ | ⟨rfl, rfl⟩ | ⟨rfl, rfl⟩ | ⟨rfl, rfl⟩ | ⟨rfl, rfl⟩ | ⟨rfl, rfl⟩ | ⟨rfl, rfl⟩ | ⟨rfl, rfl⟩ | ⟨rfl, rfl⟩ | ⟨rfl, rfl⟩ | ⟨rfl, rfl⟩ | ⟨rfl, rfl⟩ | ⟨rfl, rfl⟩ | ⟨rfl, rfl⟩ | ⟨rfl, rfl⟩ | ⟨rfl, rfl⟩ | ⟨rfl, rfl⟩ | ⟨rfl, rfl⟩ | ⟨rfl, rfl⟩ | ⟨rfl, rfl⟩ | ⟨rfl, rfl⟩ | ⟨rfl, rfl⟩ | ⟨rfl, rfl⟩ | ⟨rfl, rfl⟩
  · exact d_is_integer X G c
  · exact d_is_between X G c
  · exact d_check_number X G c
  · exact d_is_depth_row X G c
  · exact d_ends_of X G c
  · exact d_is_in_form X G c
  · exact d_is_tree X G c
  · exact d_first_turn X G c
  · exact d_is_marked_row X G c
  · exact d_is_piece X G c
  · exact d_is_heap X G c
  · exact d_check_piece X G c
  · exact d_size_of X G c
  · exact d_piece_size X G c
  · exact d_period_of X G c
  · exact d_root_piece X G c
  · exact d_root_of X G c
  · exact d_unrolled X G c
  · exact d__law_hand X G c
  · exact d__law_draw X G c
  · exact d__law_flag X G c
  · exact d__law_is_integer X G c
  · exact d__law_put X G c
  · exact d__law_row X G c
  · exact d__law_least X G c
  · exact d__law_tree X G c
  · exact d__law_piece X G c
  · exact d__law_branches X G c
  · exact d__law_is_tree X G c
  · exact d__law_is_piece X G c
  · exact d__law_deep X G c
  · exact d__law_word X G c
  · exact d__law_bent X G c
  · exact d__law_can_be_key X G c
  · exact d_law X G c
  · exact absurd hn (by decide)
  · exact absurd hn (by decide)
  · exact absurd hn (by decide)
theorem er_ok (X : K.In h) (G : h.Ns mainGlobals mg) (c : He.SaysD hfa hfn K) : ∀ x, ars.lookup x = some 100 → mg x = some (.ref (He.ga K x)) ∧ ErC K mg x := by
  intro f e
  have e := lookup_in e
  simp only [ars, List.mem_cons, List.not_mem_nil, or_false, Prod.mk.injEq] at e
  rcases e with ⟨_, e⟩ | ⟨_, e⟩ | ⟨_, e⟩ | ⟨_, e⟩ | ⟨_, e⟩ | ⟨_, e⟩ | ⟨_, e⟩ | ⟨_, e⟩ | ⟨_, e⟩ | ⟨_, e⟩ | ⟨_, e⟩ | ⟨_, e⟩ | ⟨_, e⟩ | ⟨_, e⟩ | ⟨_, e⟩ | ⟨_, e⟩ | ⟨_, e⟩ | ⟨_, e⟩ | ⟨_, e⟩ | ⟨_, e⟩ | ⟨_, e⟩ | ⟨_, e⟩ | ⟨_, e⟩ | ⟨_, e⟩ | ⟨_, e⟩ | ⟨_, e⟩ | ⟨_, e⟩ | ⟨_, e⟩ | ⟨_, e⟩ | ⟨_, e⟩ | ⟨_, e⟩ | ⟨_, e⟩ | ⟨_, e⟩ | ⟨_, e⟩ | ⟨_, e⟩ | ⟨rfl, _⟩ | ⟨rfl, _⟩ | ⟨rfl, _⟩
  · exact absurd e (by decide)
  · exact absurd e (by decide)
  · exact absurd e (by decide)
  · exact absurd e (by decide)
  · exact absurd e (by decide)
  · exact absurd e (by decide)
  · exact absurd e (by decide)
  · exact absurd e (by decide)
  · exact absurd e (by decide)
  · exact absurd e (by decide)
  · exact absurd e (by decide)
  · exact absurd e (by decide)
  · exact absurd e (by decide)
  · exact absurd e (by decide)
  · exact absurd e (by decide)
  · exact absurd e (by decide)
  · exact absurd e (by decide)
  · exact absurd e (by decide)
  · exact absurd e (by decide)
  · exact absurd e (by decide)
  · exact absurd e (by decide)
  · exact absurd e (by decide)
  · exact absurd e (by decide)
  · exact absurd e (by decide)
  · exact absurd e (by decide)
  · exact absurd e (by decide)
  · exact absurd e (by decide)
  · exact absurd e (by decide)
  · exact absurd e (by decide)
  · exact absurd e (by decide)
  · exact absurd e (by decide)
  · exact absurd e (by decide)
  · exact absurd e (by decide)
  · exact absurd e (by decide)
  · exact absurd e (by decide)
  · have g := He.glo_ok X G (c.fact 54 (f := .glo "ArrowError") rfl)
    exact ⟨g, _, g, He.exc_ok (c.fact 57 (f := .exc "ArrowError") rfl)⟩
  · have g := He.glo_ok X G (c.fact 55 (f := .glo "NoPiece") rfl)
    exact ⟨g, _, g, He.exc_ok (c.fact 58 (f := .exc "NoPiece") rfl)⟩
  · have g := He.glo_ok X G (c.fact 56 (f := .glo "NoNumber") rfl)
    exact ⟨g, _, g, He.exc_ok (c.fact 59 (f := .exc "NoNumber") rfl)⟩
theorem em_ok (X : K.In h) (G : h.Ns mainGlobals mg) (c : He.SaysD hfa hfn K) : ∀ x y C Hd, ars.lookup x = some 100 → ars.lookup y = some 100 → mg x = some (.ref C) → mg y = some (.ref Hd) → PySem.W.exmOne K (.ref C) (.ref Hd) = some (mat x y) := by
  intro x y C Hd e1 e2 g1 g2
  have h1 := (er_ok X G c x e1).1
  have h2 := (er_ok X G c y e2).1
  rw [g1] at h1
  rw [g2] at h2
  cases h1
  cases h2
  have e1 := lookup_in e1
  have e2 := lookup_in e2
  simp only [ars, List.mem_cons, List.not_mem_nil, or_false, Prod.mk.injEq] at e1 e2
  rcases e1 with ⟨_, e1⟩ | ⟨_, e1⟩ | ⟨_, e1⟩ | ⟨_, e1⟩ | ⟨_, e1⟩ | ⟨_, e1⟩ | ⟨_, e1⟩ | ⟨_, e1⟩ | ⟨_, e1⟩ | ⟨_, e1⟩ | ⟨_, e1⟩ | ⟨_, e1⟩ | ⟨_, e1⟩ | ⟨_, e1⟩ | ⟨_, e1⟩ | ⟨_, e1⟩ | ⟨_, e1⟩ | ⟨_, e1⟩ | ⟨_, e1⟩ | ⟨_, e1⟩ | ⟨_, e1⟩ | ⟨_, e1⟩ | ⟨_, e1⟩ | ⟨_, e1⟩ | ⟨_, e1⟩ | ⟨_, e1⟩ | ⟨_, e1⟩ | ⟨_, e1⟩ | ⟨_, e1⟩ | ⟨_, e1⟩ | ⟨_, e1⟩ | ⟨_, e1⟩ | ⟨_, e1⟩ | ⟨_, e1⟩ | ⟨_, e1⟩ | ⟨rfl, _⟩ | ⟨rfl, _⟩ | ⟨rfl, _⟩
  · exact absurd e1 (by decide)
  · exact absurd e1 (by decide)
  · exact absurd e1 (by decide)
  · exact absurd e1 (by decide)
  · exact absurd e1 (by decide)
  · exact absurd e1 (by decide)
  · exact absurd e1 (by decide)
  · exact absurd e1 (by decide)
  · exact absurd e1 (by decide)
  · exact absurd e1 (by decide)
  · exact absurd e1 (by decide)
  · exact absurd e1 (by decide)
  · exact absurd e1 (by decide)
  · exact absurd e1 (by decide)
  · exact absurd e1 (by decide)
  · exact absurd e1 (by decide)
  · exact absurd e1 (by decide)
  · exact absurd e1 (by decide)
  · exact absurd e1 (by decide)
  · exact absurd e1 (by decide)
  · exact absurd e1 (by decide)
  · exact absurd e1 (by decide)
  · exact absurd e1 (by decide)
  · exact absurd e1 (by decide)
  · exact absurd e1 (by decide)
  · exact absurd e1 (by decide)
  · exact absurd e1 (by decide)
  · exact absurd e1 (by decide)
  · exact absurd e1 (by decide)
  · exact absurd e1 (by decide)
  · exact absurd e1 (by decide)
  · exact absurd e1 (by decide)
  · exact absurd e1 (by decide)
  · exact absurd e1 (by decide)
  · exact absurd e1 (by decide)
  · rcases e2 with ⟨_, e2⟩ | ⟨_, e2⟩ | ⟨_, e2⟩ | ⟨_, e2⟩ | ⟨_, e2⟩ | ⟨_, e2⟩ | ⟨_, e2⟩ | ⟨_, e2⟩ | ⟨_, e2⟩ | ⟨_, e2⟩ | ⟨_, e2⟩ | ⟨_, e2⟩ | ⟨_, e2⟩ | ⟨_, e2⟩ | ⟨_, e2⟩ | ⟨_, e2⟩ | ⟨_, e2⟩ | ⟨_, e2⟩ | ⟨_, e2⟩ | ⟨_, e2⟩ | ⟨_, e2⟩ | ⟨_, e2⟩ | ⟨_, e2⟩ | ⟨_, e2⟩ | ⟨_, e2⟩ | ⟨_, e2⟩ | ⟨_, e2⟩ | ⟨_, e2⟩ | ⟨_, e2⟩ | ⟨_, e2⟩ | ⟨_, e2⟩ | ⟨_, e2⟩ | ⟨_, e2⟩ | ⟨_, e2⟩ | ⟨_, e2⟩ | ⟨rfl, _⟩ | ⟨rfl, _⟩ | ⟨rfl, _⟩
    · exact absurd e2 (by decide)
    · exact absurd e2 (by decide)
    · exact absurd e2 (by decide)
    · exact absurd e2 (by decide)
    · exact absurd e2 (by decide)
    · exact absurd e2 (by decide)
    · exact absurd e2 (by decide)
    · exact absurd e2 (by decide)
    · exact absurd e2 (by decide)
    · exact absurd e2 (by decide)
    · exact absurd e2 (by decide)
    · exact absurd e2 (by decide)
    · exact absurd e2 (by decide)
    · exact absurd e2 (by decide)
    · exact absurd e2 (by decide)
    · exact absurd e2 (by decide)
    · exact absurd e2 (by decide)
    · exact absurd e2 (by decide)
    · exact absurd e2 (by decide)
    · exact absurd e2 (by decide)
    · exact absurd e2 (by decide)
    · exact absurd e2 (by decide)
    · exact absurd e2 (by decide)
    · exact absurd e2 (by decide)
    · exact absurd e2 (by decide)
    · exact absurd e2 (by decide)
    · exact absurd e2 (by decide)
    · exact absurd e2 (by decide)
    · exact absurd e2 (by decide)
    · exact absurd e2 (by decide)
    · exact absurd e2 (by decide)
    · exact absurd e2 (by decide)
    · exact absurd e2 (by decide)
    · exact absurd e2 (by decide)
    · exact absurd e2 (by decide)
    · exact (He.exm_ok (c.fact 60 (f := .exm "ArrowError" "ArrowError" true) rfl)).trans (by decide)
    · exact (He.exm_ok (c.fact 61 (f := .exm "ArrowError" "NoPiece" false) rfl)).trans (by decide)
    · exact (He.exm_ok (c.fact 62 (f := .exm "ArrowError" "NoNumber" false) rfl)).trans (by decide)
  · rcases e2 with ⟨_, e2⟩ | ⟨_, e2⟩ | ⟨_, e2⟩ | ⟨_, e2⟩ | ⟨_, e2⟩ | ⟨_, e2⟩ | ⟨_, e2⟩ | ⟨_, e2⟩ | ⟨_, e2⟩ | ⟨_, e2⟩ | ⟨_, e2⟩ | ⟨_, e2⟩ | ⟨_, e2⟩ | ⟨_, e2⟩ | ⟨_, e2⟩ | ⟨_, e2⟩ | ⟨_, e2⟩ | ⟨_, e2⟩ | ⟨_, e2⟩ | ⟨_, e2⟩ | ⟨_, e2⟩ | ⟨_, e2⟩ | ⟨_, e2⟩ | ⟨_, e2⟩ | ⟨_, e2⟩ | ⟨_, e2⟩ | ⟨_, e2⟩ | ⟨_, e2⟩ | ⟨_, e2⟩ | ⟨_, e2⟩ | ⟨_, e2⟩ | ⟨_, e2⟩ | ⟨_, e2⟩ | ⟨_, e2⟩ | ⟨_, e2⟩ | ⟨rfl, _⟩ | ⟨rfl, _⟩ | ⟨rfl, _⟩
    · exact absurd e2 (by decide)
    · exact absurd e2 (by decide)
    · exact absurd e2 (by decide)
    · exact absurd e2 (by decide)
    · exact absurd e2 (by decide)
    · exact absurd e2 (by decide)
    · exact absurd e2 (by decide)
    · exact absurd e2 (by decide)
    · exact absurd e2 (by decide)
    · exact absurd e2 (by decide)
    · exact absurd e2 (by decide)
    · exact absurd e2 (by decide)
    · exact absurd e2 (by decide)
    · exact absurd e2 (by decide)
    · exact absurd e2 (by decide)
    · exact absurd e2 (by decide)
    · exact absurd e2 (by decide)
    · exact absurd e2 (by decide)
    · exact absurd e2 (by decide)
    · exact absurd e2 (by decide)
    · exact absurd e2 (by decide)
    · exact absurd e2 (by decide)
    · exact absurd e2 (by decide)
    · exact absurd e2 (by decide)
    · exact absurd e2 (by decide)
    · exact absurd e2 (by decide)
    · exact absurd e2 (by decide)
    · exact absurd e2 (by decide)
    · exact absurd e2 (by decide)
    · exact absurd e2 (by decide)
    · exact absurd e2 (by decide)
    · exact absurd e2 (by decide)
    · exact absurd e2 (by decide)
    · exact absurd e2 (by decide)
    · exact absurd e2 (by decide)
    · exact (He.exm_ok (c.fact 63 (f := .exm "NoPiece" "ArrowError" true) rfl)).trans (by decide)
    · exact (He.exm_ok (c.fact 64 (f := .exm "NoPiece" "NoPiece" true) rfl)).trans (by decide)
    · exact (He.exm_ok (c.fact 65 (f := .exm "NoPiece" "NoNumber" false) rfl)).trans (by decide)
  · rcases e2 with ⟨_, e2⟩ | ⟨_, e2⟩ | ⟨_, e2⟩ | ⟨_, e2⟩ | ⟨_, e2⟩ | ⟨_, e2⟩ | ⟨_, e2⟩ | ⟨_, e2⟩ | ⟨_, e2⟩ | ⟨_, e2⟩ | ⟨_, e2⟩ | ⟨_, e2⟩ | ⟨_, e2⟩ | ⟨_, e2⟩ | ⟨_, e2⟩ | ⟨_, e2⟩ | ⟨_, e2⟩ | ⟨_, e2⟩ | ⟨_, e2⟩ | ⟨_, e2⟩ | ⟨_, e2⟩ | ⟨_, e2⟩ | ⟨_, e2⟩ | ⟨_, e2⟩ | ⟨_, e2⟩ | ⟨_, e2⟩ | ⟨_, e2⟩ | ⟨_, e2⟩ | ⟨_, e2⟩ | ⟨_, e2⟩ | ⟨_, e2⟩ | ⟨_, e2⟩ | ⟨_, e2⟩ | ⟨_, e2⟩ | ⟨_, e2⟩ | ⟨rfl, _⟩ | ⟨rfl, _⟩ | ⟨rfl, _⟩
    · exact absurd e2 (by decide)
    · exact absurd e2 (by decide)
    · exact absurd e2 (by decide)
    · exact absurd e2 (by decide)
    · exact absurd e2 (by decide)
    · exact absurd e2 (by decide)
    · exact absurd e2 (by decide)
    · exact absurd e2 (by decide)
    · exact absurd e2 (by decide)
    · exact absurd e2 (by decide)
    · exact absurd e2 (by decide)
    · exact absurd e2 (by decide)
    · exact absurd e2 (by decide)
    · exact absurd e2 (by decide)
    · exact absurd e2 (by decide)
    · exact absurd e2 (by decide)
    · exact absurd e2 (by decide)
    · exact absurd e2 (by decide)
    · exact absurd e2 (by decide)
    · exact absurd e2 (by decide)
    · exact absurd e2 (by decide)
    · exact absurd e2 (by decide)
    · exact absurd e2 (by decide)
    · exact absurd e2 (by decide)
    · exact absurd e2 (by decide)
    · exact absurd e2 (by decide)
    · exact absurd e2 (by decide)
    · exact absurd e2 (by decide)
    · exact absurd e2 (by decide)
    · exact absurd e2 (by decide)
    · exact absurd e2 (by decide)
    · exact absurd e2 (by decide)
    · exact absurd e2 (by decide)
    · exact absurd e2 (by decide)
    · exact absurd e2 (by decide)
    · exact (He.exm_ok (c.fact 66 (f := .exm "NoNumber" "ArrowError" true) rfl)).trans (by decide)
    · exact (He.exm_ok (c.fact 67 (f := .exm "NoNumber" "NoPiece" false) rfl)).trans (by decide)
    · exact (He.exm_ok (c.fact 68 (f := .exm "NoNumber" "NoNumber" true) rfl)).trans (by decide)
theorem mod_ok (X : K.In h) (G : h.Ns mainGlobals mg) (c : He.SaysD hfa hfn K) : ∀ k, Mod P w K mg base k ars (lev k) cs0
  | 0 => ⟨bi_ok X G c, fun f n e hn => by
      obtain ⟨fa, fd, ps, h1, h2, h3, h4, _⟩ := (dn_ok (P := P) (w := w) (base := base) X G c f n e hn).ex
      exact ⟨fa, fd, ps, h1, h2, h3, h4, ⟨fun vs H Q E z => z.1.trans h1.symm, fun A outer s H args us vs Q E hr e0 hb r z => by
        obtain ⟨_, F, ks, A, _, _, z⟩ := z
        exact z.elim⟩⟩, fun x d e => (by cases e), fun x e => (er_ok X G c x e).2, em_ok X G c⟩
  | k + 1 => ⟨bi_ok X G c, fun f n e hn => by
      obtain ⟨fa, fd, ps, h1, h2, h3, h4, h5⟩ := (dn_ok (P := P) (w := w) (base := base) X G c f n e hn).ex
      exact ⟨fa, fd, ps, h1, h2, h3, h4, h5 k (mod_ok X G c k)⟩, fun x d e => (by cases e), fun x e => (er_ok X G c x e).2, em_ok X G c⟩
end
end Oa


namespace Oa
/-! Rows of depths: the mathematics, no program in sight. -/
abbrev Tr := List Int
def sh (k : Int) (t : Tr) : Tr := t.map (· + k)
def fo (k : Int) (ts : List Tr) : List Int := ts.flatMap (sh k)
inductive Good : Tr → Prop
  | mk (ts : List Tr) (h : ∀ t ∈ ts, Good t) (f : ts.Pairwise fun a b => b ≤ a) : Good (0 :: fo 1 ts)
/-- begins with 0, all else is deeper -/
def Sd (t : Tr) : Prop := ∃ r, t = 0 :: r ∧ ∀ x ∈ r, 1 ≤ x
theorem sh_cons (k x : Int) (t : Tr) : sh k (x :: t) = (x + k) :: sh k t := rfl
theorem sh_nil (k : Int) : sh k [] = [] := rfl
theorem sh_sh (k l : Int) (t : Tr) : sh k (sh l t) = sh (l + k) t := by
  unfold sh
  rw [List.map_map]
  refine List.map_congr_left fun x _ => ?_
  show x + l + k = x + (l + k)
  omega
theorem fo_cons (k : Int) (t : Tr) (ts : List Tr) : fo k (t :: ts) = sh k t ++ fo k ts := rfl
theorem fo_nil (k : Int) : fo k [] = [] := rfl
theorem sh_fo (k l : Int) : ∀ ts : List Tr, sh k (fo l ts) = fo (l + k) ts
  | [] => rfl
  | t :: ts => by
    rw [fo_cons, fo_cons, ← sh_fo k l ts, ← sh_sh k l t]
    unfold sh
    rw [List.map_append]
theorem Good.sd {t : Tr} (h : Good t) : Sd t := by
  induction h with
  | mk ts h f ih =>
    refine ⟨_, rfl, fun x hx => ?_⟩
    obtain ⟨t, ht, hx⟩ := List.mem_flatMap.mp hx
    obtain ⟨r, rfl, hr⟩ := ih t ht
    obtain ⟨y, hy, rfl⟩ := List.mem_map.mp hx
    rcases List.mem_cons.mp hy with rfl | hy
    · decide
    · have := hr y hy
      omega
theorem lt_cons {a b : Int} {s t : List Int} : a :: s < b :: t ↔ a < b ∨ a = b ∧ s < t := List.cons_lt_cons_iff
theorem sh_lt (k : Int) : ∀ a b : Tr, sh k a < sh k b ↔ a < b
  | [], [] => by simp [sh]
  | [], b :: bs => by simp [sh]
  | a :: as, [] => by simp [sh]
  | a :: as, b :: bs => by
    rw [sh_cons, sh_cons, lt_cons, lt_cons, sh_lt k as bs]
    constructor
    · rintro (h | ⟨h, g⟩)
      · exact .inl (by omega)
      · exact .inr ⟨by omega, g⟩
    · rintro (h | ⟨h, g⟩)
      · exact .inl (by omega)
      · exact .inr ⟨by omega, g⟩
theorem tr_lt_irrefl (a : Tr) : ¬ a < a := List.lt_irrefl a
theorem tr_le_total (a b : Tr) : a ≤ b ∨ b ≤ a := List.le_total a b
theorem tr_le_trans {a b c : Tr} (h : a ≤ b) (g : b ≤ c) : a ≤ c := List.le_trans h g
theorem tr_le_antisymm {a b : Tr} (h : a ≤ b) (g : b ≤ a) : a = b := List.le_antisymm h g
theorem tr_lt_asymm {a b : Tr} (h : a < b) : ¬ b < a := List.lt_asymm h

/-! ### the head of what comes behind -/
def Low (k : Int) : List Int → Prop
  | [] => True
  | c :: _ => c ≤ k
theorem Low.mono {k l : Int} (h : k ≤ l) : ∀ {z : List Int}, Low k z → Low l z
  | [], _ => trivial
  | c :: _, g => by
    simp only [Low] at g ⊢
    omega
theorem low_fo {k : Int} : ∀ {ts : List Tr}, (∀ t ∈ ts, Sd t) → ∀ {z : List Int}, Low k z → Low k (fo k ts ++ z)
  | [], _, z, h => h
  | t :: ts, hs, z, h => by
    obtain ⟨r, rfl, _⟩ := hs t List.mem_cons_self
    rw [fo_cons, sh_cons]
    simp only [List.cons_append, Low]
    omega

/-! ### the order of rows made of branches -/
theorem lt_rest : ∀ {r q : List Int} {z y : List Int} {k : Int}, r < q → (∀ x ∈ q, 1 ≤ x) → Low k z → sh k r ++ z < sh k q ++ y
  | _, [], z, y, k, h, _, _ => by simp at h
  | [], x :: q, z, y, k, h, hq, hz => by
    have := hq x List.mem_cons_self
    cases z with
    | nil => simp [sh]
    | cons c z =>
      simp only [Low] at hz
      show c :: z < (x + k) :: (sh k q ++ y)
      exact lt_cons.mpr (.inl (by omega))
  | u :: r, x :: q, z, y, k, h, hq, hz => by
    show (u + k) :: (sh k r ++ z) < (x + k) :: (sh k q ++ y)
    rcases lt_cons.mp h with g | ⟨g0, g⟩
    · exact lt_cons.mpr (.inl (by omega))
    · exact lt_cons.mpr (.inr ⟨by omega, lt_rest g (fun v hv => hq v (List.mem_cons_of_mem _ hv)) hz⟩)
theorem lt_fo {a b : Tr} (ha : Sd a) (hb : Sd b) (h : a < b) {k : Int} {z y : List Int} (hz : Low k z) : sh k a ++ z < sh k b ++ y := by
  obtain ⟨r, rfl, hr⟩ := ha
  obtain ⟨q, rfl, hq⟩ := hb
  have h2 : r < q := by
    rcases lt_cons.mp h with h | ⟨_, h⟩
    · omega
    · exact h
  show (0 + k) :: (sh k r ++ z) < (0 + k) :: (sh k q ++ y)
  exact lt_cons.mpr (.inr ⟨rfl, lt_rest h2 hq hz⟩)

/-! ### falling rows -/
def leB (a b : Tr) : Bool := decide (a ≤ b)
def fall (ts : List Tr) : List Tr := (ts.mergeSort leB).reverse
def row (ts : List Tr) : Tr := 0 :: fo 1 (fall ts)
theorem fall_perm (ts : List Tr) : (fall ts).Perm ts := (List.reverse_perm _).trans (List.mergeSort_perm ts leB)
theorem fall_pw (ts : List Tr) : (fall ts).Pairwise fun a b => b ≤ a := by
  unfold fall
  rw [List.pairwise_reverse]
  have h := List.pairwise_mergeSort (le := leB) (fun a b c h g => by
    simp only [leB, decide_eq_true_eq] at *
    exact tr_le_trans h g) (fun a b => by
    simp only [leB, Bool.or_eq_true, decide_eq_true_eq]
    exact tr_le_total a b) ts
  exact h.imp fun h => by simpa [leB] using h
theorem fall_uniq {xs ys : List Tr} (p : xs.Perm ys) (hx : xs.Pairwise fun a b => b ≤ a) (hy : ys.Pairwise fun a b => b ≤ a) : xs = ys :=
  List.Perm.eq_of_pairwise (le := fun a b => b ≤ a) (fun a b _ _ h g => tr_le_antisymm g h) hx hy p
theorem fall_of {xs ys : List Tr} (p : xs.Perm ys) (hy : ys.Pairwise fun a b => b ≤ a) : fall xs = ys :=
  fall_uniq ((fall_perm xs).trans p) (fall_pw xs) hy
theorem fall_id {ts : List Tr} (h : ts.Pairwise fun a b => b ≤ a) : fall ts = ts := fall_of (.refl _) h
theorem fall_congr {xs ys : List Tr} (p : xs.Perm ys) : fall xs = fall ys := fall_of (p.trans (fall_perm ys).symm) (fall_pw ys)
theorem row_congr {xs ys : List Tr} (p : xs.Perm ys) : row xs = row ys := by
  unfold row
  rw [fall_congr p]
theorem mem_fall {t : Tr} {ts : List Tr} : t ∈ fall ts ↔ t ∈ ts := (fall_perm ts).mem_iff
theorem good_row {ts : List Tr} (h : ∀ t ∈ ts, Good t) : Good (row ts) := .mk (fall ts) (fun t ht => h t (mem_fall.mp ht)) (fall_pw ts)
theorem row_id {ts : List Tr} (h : ts.Pairwise fun a b => b ≤ a) : row ts = 0 :: fo 1 ts := by
  unfold row
  rw [fall_id h]
/-- put in its place -/
def ins (a : Tr) : List Tr → List Tr
  | [] => [a]
  | x :: s => if x < a then a :: x :: s else x :: ins a s
theorem ins_perm (a : Tr) : ∀ s : List Tr, (ins a s).Perm (a :: s)
  | [] => .refl _
  | x :: s => by
    unfold ins
    split
    · exact .refl _
    · exact ((ins_perm a s).cons x).trans (.swap a x s)
theorem ins_pw (a : Tr) : ∀ {s : List Tr}, (s.Pairwise fun a b => b ≤ a) → (ins a s).Pairwise fun a b => b ≤ a
  | [], _ => List.pairwise_singleton _ _
  | x :: s, h => by
    obtain ⟨h1, h2⟩ := List.pairwise_cons.mp h
    unfold ins
    split
    · rename_i hx
      refine List.pairwise_cons.mpr ⟨fun b hb => ?_, h⟩
      have ha : x ≤ a := tr_lt_asymm hx
      rcases List.mem_cons.mp hb with rfl | hb
      · exact ha
      · exact tr_le_trans (h1 b hb) ha
    · rename_i hx
      refine List.pairwise_cons.mpr ⟨fun b hb => ?_, ins_pw a h2⟩
      rcases List.mem_cons.mp ((ins_perm a s).mem_iff.mp hb) with rfl | hb
      · exact hx
      · exact h1 b hb
theorem fall_ins (a : Tr) (ts : List Tr) : fall (ts ++ [a]) = ins a (fall ts) :=
  fall_of ((List.perm_append_singleton a ts).trans (((fall_perm ts).symm.cons a).trans (ins_perm a _).symm)) (ins_pw a (fall_pw ts))
theorem ins_lt {a b : Tr} (ha : Sd a) (hb : Sd b) (h : a < b) : ∀ {s : List Tr}, (∀ t ∈ s, Sd t) → fo 1 (ins a s) < fo 1 (ins b s)
  | [], _ => by
    have := lt_fo ha hb h (k := 1) (z := []) (y := []) trivial
    exact this
  | x :: s, hs => by
    have hx := hs x List.mem_cons_self
    have hs2 : ∀ t ∈ s, Sd t := fun t ht => hs t (List.mem_cons_of_mem _ ht)
    unfold ins
    by_cases h1 : x < a
    · have h2 : x < b := List.lt_trans h1 h
      rw [if_pos h1, if_pos h2, fo_cons, fo_cons]
      refine lt_fo ha hb h ?_
      have := low_fo (k := 1) (ts := x :: s) hs (z := []) trivial
      rwa [List.append_nil] at this
    · rw [if_neg h1]
      by_cases h2 : x < b
      · rw [if_pos h2, fo_cons, fo_cons]
        refine lt_fo hx hb h2 ?_
        have := low_fo (k := 1) (ts := ins a s) (fun t ht => ?_) (z := []) trivial
        · rwa [List.append_nil] at this
        · rcases List.mem_cons.mp ((ins_perm a s).mem_iff.mp ht) with rfl | ht
          · exact ha
          · exact hs2 t ht
      · rw [if_neg h2, fo_cons, fo_cons]
        exact List.append_left_lt (ins_lt ha hb h hs2)
theorem row_lt {ts : List Tr} {a b : Tr} (ht : ∀ t ∈ ts, Sd t) (ha : Sd a) (hb : Sd b) (h : a < b) : row (ts ++ [a]) < row (ts ++ [b]) := by
  unfold row
  rw [fall_ins, fall_ins]
  exact lt_cons.mpr (.inr ⟨rfl, ins_lt ha hb h fun t h => ht t (mem_fall.mp h)⟩)
theorem row_lt_iff {ts : List Tr} {a b : Tr} (ht : ∀ t ∈ ts, Sd t) (ha : Sd a) (hb : Sd b) : row (ts ++ [a]) < row (ts ++ [b]) ↔ a < b := by
  refine ⟨fun h => ?_, row_lt ht ha hb⟩
  by_cases g : a < b
  · exact g
  · by_cases g2 : b < a
    · exact absurd (row_lt ht hb ha g2) (tr_lt_asymm h)
    · cases tr_le_antisymm g2 g
      exact absurd h (tr_lt_irrefl _)

/-! ### steps: no depth more than one deeper than the one ahead -/
def Stp1 : Int → List Int → Prop
  | _, [] => True
  | d, x :: r => x ≤ d + 1 ∧ Stp1 x r
theorem Good.steps {t : Tr} (h : Good t) : ∀ {k d : Int} {z : List Int}, k ≤ d + 1 → (∀ e, k ≤ e → Stp1 e z) → Stp1 d (sh k t ++ z) := by
  induction h with
  | mk ts h f ih =>
    intro k d z hd hz
    have go : ∀ us : List Tr, (∀ t ∈ us, t ∈ ts) → ∀ e, k ≤ e → Stp1 e (fo (k + 1) us ++ z) := by
      intro us
      induction us with
      | nil => intro _ e he; exact hz e he
      | cons u us ihu =>
        intro hu e he
        rw [fo_cons, List.append_assoc]
        exact ih u (hu u List.mem_cons_self) (by omega) fun e' he' => ihu (fun t ht => hu t (List.mem_cons_of_mem _ ht)) e' (by omega)
    rw [sh_cons, sh_fo, Int.add_comm 1 k]
    exact ⟨by omega, go ts (fun _ h => h) (0 + k) (by omega)⟩
theorem Good.steps0 {r : List Int} (h : Good (0 :: r)) : Stp1 0 r := by
  have := h.steps (k := 0) (d := 0) (z := []) (by omega) fun _ _ => trivial
  have e : sh 0 (0 :: r) ++ [] = 0 :: r := by
    rw [List.append_nil]
    unfold sh
    rw [show (fun x : Int => x + 0) = id from funext fun x => Int.add_zero x, List.map_id]
  rw [e] at this
  exact this.2

/-! ### in form: looked at from behind each place -/
def Pf0 : List Int → Prop
  | [] => True
  | d :: rest => match rest.dropWhile (fun x => decide (d < x)) with
    | [] => True
    | e :: r => e = d → ¬ (d :: rest.takeWhile (fun x => decide (d < x))) < (e :: r.takeWhile (fun x => decide (e < x)))
theorem pf0_cons (d : Int) (rest : List Int) : Pf0 (d :: rest) = match rest.dropWhile (fun x => decide (d < x)) with
    | [] => True
    | e :: r => e = d → ¬ (d :: rest.takeWhile (fun x => decide (d < x))) < (e :: r.takeWhile (fun x => decide (e < x))) := rfl
def AllSuf (z : List Int) : List Int → Prop
  | [] => True
  | x :: l => Pf0 (x :: l ++ z) ∧ AllSuf z l
theorem allSuf_append {z : List Int} : ∀ {l m : List Int}, AllSuf (m ++ z) l → AllSuf z m → AllSuf z (l ++ m)
  | [], m, _, h => h
  | x :: l, m, h, g => by
    refine ⟨?_, allSuf_append h.2 g⟩
    have := h.1
    rw [List.cons_append, ← List.append_assoc] at this
    exact this
theorem tw_low {d : Int} {r z : List Int} (hr : ∀ x ∈ r, d < x) (hz : Low d z) : (r ++ z).takeWhile (fun x => decide (d < x)) = r ∧ (r ++ z).dropWhile (fun x => decide (d < x)) = z := by
  induction r with
  | nil =>
    cases z with
    | nil => exact ⟨rfl, rfl⟩
    | cons c z =>
      simp only [Low] at hz
      simp [List.takeWhile, List.dropWhile, Int.not_lt.mpr hz]
  | cons x r ih =>
    have := hr x List.mem_cons_self
    obtain ⟨h1, h2⟩ := ih fun y hy => hr y (List.mem_cons_of_mem _ hy)
    simp [List.takeWhile, List.dropWhile, this, h1, h2]
theorem Good.inForm {t : Tr} (h : Good t) : ∀ {k : Int} {z : List Int}, Low k z → AllSuf z (sh k t.tail) := by
  induction h with
  | mk ts h f ih =>
    intro k z hz
    show AllSuf z (sh k (fo 1 ts))
    rw [sh_fo, Int.add_comm 1 k]
    have go : ∀ us : List Tr, (∀ t ∈ us, t ∈ ts) → (us.Pairwise fun a b => b ≤ a) → AllSuf z (fo (k + 1) us) := by
      intro us
      induction us with
      | nil => intro _ _; trivial
      | cons u us ihu =>
        intro hu hp
        obtain ⟨p1, p2⟩ := List.pairwise_cons.mp hp
        have hus : ∀ t ∈ us, t ∈ ts := fun t ht => hu t (List.mem_cons_of_mem _ ht)
        have gu := @ih u (hu u List.mem_cons_self)
        obtain ⟨r, eu, hr⟩ := (h u (hu u List.mem_cons_self)).sd
        have lo : Low (k + 1) (fo (k + 1) us ++ z) := low_fo (fun t ht => (h t (hus t ht)).sd) (hz.mono (by omega))
        rw [fo_cons]
        refine allSuf_append ?_ (ihu hus p2)
        have g2 := gu lo
        subst eu
        refine ⟨?_, g2⟩
        show Pf0 ((0 + (k + 1)) :: (sh (k + 1) r ++ (fo (k + 1) us ++ z)))
        have hr2 : ∀ x ∈ sh (k + 1) r, 0 + (k + 1) < x := fun x hx => by
          obtain ⟨y, hy, rfl⟩ := List.mem_map.mp hx
          have := hr y hy
          omega
        obtain ⟨t1, t2⟩ := tw_low hr2 (lo.mono (by omega : k + 1 ≤ 0 + (k + 1)))
        rw [pf0_cons, t1, t2]
        cases us with
        | nil =>
          cases z with
          | nil => trivial
          | cons c z =>
            simp only [Low] at hz
            show c = 0 + (k + 1) → _
            intro h
            omega
        | cons v us =>
          obtain ⟨q, ev, hq⟩ := (h v (hus v List.mem_cons_self)).sd
          subst ev
          rw [fo_cons, sh_cons]
          show 0 + (k + 1) = 0 + (k + 1) → ¬ _
          intro _
          have hq2 : ∀ x ∈ sh (k + 1) q, 0 + (k + 1) < x := fun x hx => by
            obtain ⟨y, hy, rfl⟩ := List.mem_map.mp hx
            have := hq y hy
            omega
          have lo2 : Low (0 + (k + 1)) (fo (k + 1) us ++ z) := (low_fo (k := k + 1) (fun t ht => (h t (hus t (List.mem_cons_of_mem _ ht))).sd) (hz.mono (by omega))).mono (by omega)
          obtain ⟨s1, _⟩ := tw_low hq2 lo2
          have ea : (List.append (sh (k + 1) q) (fo (k + 1) us)).append z = sh (k + 1) q ++ (fo (k + 1) us ++ z) := List.append_assoc _ _ _
          rw [ea, s1]
          have hle := p1 _ List.mem_cons_self
          intro hlt
          exact hle ((sh_lt (k + 1) _ _).mp hlt)
    exact go ts (fun _ h => h) f
theorem Good.inForm0 {t : Tr} (h : Good t) : AllSuf [] t := by
  have g := h.inForm (k := 0) (z := []) trivial
  have e : sh 0 t.tail = t.tail := by
    unfold sh
    rw [show (fun x : Int => x + 0) = id from funext fun x => Int.add_zero x, List.map_id]
  rw [e] at g
  obtain ⟨r, rfl, hr⟩ := h.sd
  refine ⟨?_, g⟩
  rw [List.cons_append, List.append_nil]
  rw [pf0_cons]
  obtain ⟨_, t2⟩ := tw_low (d := 0) (r := r) (z := []) (fun x hx => by have := hr x hx; omega) trivial
  rw [List.append_nil] at t2
  rw [t2]
  trivial
end Oa

/-! Values of the small language, construct by construct. -/
namespace Oa
open PySem PySem.Spec PyProof.Rows L2
namespace V
variable {cf : CfT} {cs : Str → Option D} {fu : Nat}
/-! ### expressions -/
theorem p1 {p : P1} {a : Ex} {m m1 : Sl} {r out : Rv} (h : a.ev cf cs m = .ok (r, m1)) (hp : p.f [r] = .ok out) : (Ex.p1 p a).ev cf cs m = .ok (out, m1) := by
  show ((evsCons true (a.ev cf cs) evsNil m).bind fun (rs, m1) => (p.f rs).bind fun r => .ok (r, m1)) = _
  simp only [evsCons, evsNil, h, Res.bind_ok, Bool.not_true, Bool.and_false, Bool.false_eq_true, if_false, hp]
theorem p2 {p : P2} {a b : Ex} {m m1 m2 : Sl} {r q out : Rv} (h : a.ev cf cs m = .ok (r, m1)) (g : b.ev cf cs m1 = .ok (q, m2)) (hB : (r.isB && !b.pu) = false) (hp : p.f [r, q] = .ok out) : (Ex.p2 p a b).ev cf cs m = .ok (out, m2) := by
  show ((evsCons b.pu (a.ev cf cs) (evsCons true (b.ev cf cs) evsNil) m).bind fun (rs, m1) => (p.f rs).bind fun r => .ok (r, m1)) = _
  simp only [evsCons, evsNil, h, g, Res.bind_ok, Bool.not_true, Bool.and_false, Bool.false_eq_true, if_false, hp, hB]
theorem neg {a : Ex} {m m1 : Sl} {i : Int} (h : a.ev cf cs m = .ok (.p (.int i), m1)) : (Ex.neg a).ev cf cs m = .ok (.p (.int (-i)), m1) := by
  show ((evsCons true (a.ev cf cs) evsNil m).bind fun (rs, m1) => (P.neg rs).bind fun r => .ok (r, m1)) = _
  simp only [evsCons, evsNil, h, Res.bind_ok, Bool.not_true, Bool.and_false, Bool.false_eq_true, if_false]
  rfl
theorem rev {a : Ex} {m m1 : Sl} {r out : Rv} (h : a.ev cf cs m = .ok (r, m1)) (hp : P.rev [r] = .ok out) : (Ex.rev a).ev cf cs m = .ok (out, m1) := by
  show ((evsCons true (a.ev cf cs) evsNil m).bind fun (rs, m1) => (P.rev rs).bind fun r => .ok (r, m1)) = _
  simp only [evsCons, evsNil, h, Res.bind_ok, Bool.not_true, Bool.and_false, Bool.false_eq_true, if_false, hp]
theorem isi {a : Ex} {c : String} {m m1 : Sl} {r out : Rv} (h : a.ev cf cs m = .ok (r, m1)) (hp : P.isi [c] r = .ok out) : (Ex.isi a c).ev cf cs m = .ok (out, m1) := by
  show ((evsCons true (a.ev cf cs) evsNil m).bind fun (rs, m1) => (isiF [c] rs).bind fun r => .ok (r, m1)) = _
  simp only [evsCons, evsNil, h, Res.bind_ok, Bool.not_true, Bool.and_false, Bool.false_eq_true, if_false, isiF, hp]
theorem and_f {a b : Ex} {m m1 : Sl} (h : a.ev cf cs m = .ok (.p (.bool false), m1)) : (Ex.and a b).ev cf cs m = .ok (.p (.bool false), m1) := by
  show ((a.ev cf cs m).bind fun (r, m1) => match r.m.bl? with
  | some true => b.ev cf cs m1
  | some false => .ok (.p (.bool false), m1)
  | none => .bad) = _
  rw [h]
  rfl
theorem and_t {a b : Ex} {m m1 : Sl} {z : Res (Rv × Sl)} (h : a.ev cf cs m = .ok (.p (.bool true), m1)) (g : b.ev cf cs m1 = z) : (Ex.and a b).ev cf cs m = z := by
  show ((a.ev cf cs m).bind fun (r, m1) => match r.m.bl? with
  | some true => b.ev cf cs m1
  | some false => .ok (.p (.bool false), m1)
  | none => .bad) = _
  rw [h]
  exact g
theorem or_t {a b : Ex} {m m1 : Sl} (h : a.ev cf cs m = .ok (.p (.bool true), m1)) : (Ex.or a b).ev cf cs m = .ok (.p (.bool true), m1) := by
  show ((a.ev cf cs m).bind fun (r, m1) => match r.m.bl? with
  | some false => b.ev cf cs m1
  | some true => .ok (.p (.bool true), m1)
  | none => .bad) = _
  rw [h]
  rfl
theorem or_f {a b : Ex} {m m1 : Sl} {z : Res (Rv × Sl)} (h : a.ev cf cs m = .ok (.p (.bool false), m1)) (g : b.ev cf cs m1 = z) : (Ex.or a b).ev cf cs m = z := by
  show ((a.ev cf cs m).bind fun (r, m1) => match r.m.bl? with
  | some false => b.ev cf cs m1
  | some true => .ok (.p (.bool true), m1)
  | none => .bad) = _
  rw [h]
  exact g
theorem not {a : Ex} {m m1 : Sl} {t : Bool} (h : a.ev cf cs m = .ok (.p (.bool t), m1)) : (Ex.not a).ev cf cs m = .ok (.p (.bool (!t)), m1) := by
  show notF (a.ev cf cs) m = _
  unfold notF
  rw [h]
  rfl
theorem ite_t {c a b : Ex} {m m1 : Sl} {z : Res (Rv × Sl)} (h : c.ev cf cs m = .ok (.p (.bool true), m1)) (g : a.ev cf cs m1 = z) : (Ex.ite c a b).ev cf cs m = z := by
  show ((c.ev cf cs m).bind fun (r, m1) => match r.m.bl? with
  | some true => a.ev cf cs m1
  | some false => b.ev cf cs m1
  | none => .bad) = _
  rw [h]
  exact g
theorem ite_f {c a b : Ex} {m m1 : Sl} {z : Res (Rv × Sl)} (h : c.ev cf cs m = .ok (.p (.bool false), m1)) (g : b.ev cf cs m1 = z) : (Ex.ite c a b).ev cf cs m = z := by
  show ((c.ev cf cs m).bind fun (r, m1) => match r.m.bl? with
  | some true => a.ev cf cs m1
  | some false => b.ev cf cs m1
  | none => .bad) = _
  rw [h]
  exact g
theorem tup {es : Exs} {m m1 : Sl} {rs : List Rv} {out : Rv} (h : es.evs cf cs m = .ok (rs, m1)) (hp : tupF rs = .ok out) : (Ex.tup es).ev cf cs m = .ok (out, m1) := by
  show ((es.evs cf cs m).bind fun (rs, m1) => (tupF rs).bind fun r => .ok (r, m1)) = _
  rw [h]
  show ((tupF rs).bind fun r => .ok (r, m1)) = _
  rw [hp]
  rfl
theorem lst {own : Bool} {es : Exs} {m m1 : Sl} {rs : List Rv} {out : Rv} (h : es.evs cf cs m = .ok (rs, m1)) (hp : lstF own rs = .ok out) : (Ex.lst own es).ev cf cs m = .ok (out, m1) := by
  show ((es.evs cf cs m).bind fun (rs, m1) => (lstF own rs).bind fun r => .ok (r, m1)) = _
  rw [h]
  show ((lstF own rs).bind fun r => .ok (r, m1)) = _
  rw [hp]
  rfl
theorem es_nil {m : Sl} : Exs.nil.evs cf cs m = .ok ([], m) := rfl
theorem es_cons {e : Ex} {es : Exs} {m m1 m2 : Sl} {r : Rv} {rs : List Rv} (h : e.ev cf cs m = .ok (r, m1)) (g : es.evs cf cs m1 = .ok (rs, m2)) (hB : (r.isB && !es.pu) = false) : (Exs.cons e es).evs cf cs m = .ok (r :: rs, m2) := by
  show (evsCons es.pu (e.ev cf cs) (es.evs cf cs) m) = _
  simp only [evsCons, h, g, Res.bind_ok, hB, Bool.false_eq_true, if_false]
theorem as_nil {m : Sl} : Ars.nil.eva cf cs m = .ok ([], m) := rfl
theorem as_r {e : Ex} {es : Ars} {m m1 m2 : Sl} {r : Rv} {as : List Arg} (h : e.ev cf cs m = .ok (r, m1)) (g : es.eva cf cs m1 = .ok (as, m2)) (hB : (r.isB && !es.pu) = false) : (Ars.r e es).eva cf cs m = .ok (.r r :: as, m2) := by
  show ((e.ev cf cs m).bind fun (r, m1) => (es.eva cf cs m1).bind fun (as, m2) => if (r.isB && !es.pu) = true then .bad else .ok (.r r :: as, m2)) = _
  simp only [h, g, Res.bind_ok, hB, Bool.false_eq_true, if_false]
theorem as_w {i : Nat} {es : Ars} {m m2 : Sl} {k : M} {as : List Arg} (h : m[i]? = some (some k)) (g : es.eva cf cs m = .ok (as, m2)) : (Ars.w i es).eva cf cs m = .ok (.w i :: as, m2) := by
  show (match m[i]? with
    | some (some _) => (es.eva cf cs m).bind fun (as, m2) => Res.ok (Arg.w i :: as, m2)
    | _ => .bad) = _
  rw [h]
  show ((es.eva cf cs m).bind fun (as, m2) => .ok (.w i :: as, m2)) = _
  rw [g]
  rfl
theorem call {f : Str} {es : Ars} {m m1 m2 m3 : Sl} {as : List Arg} {ks ks' : List M} {k : M} (h : es.eva cf cs m = .ok (as, m1)) (hL : (looks as && hasW as) = false) (hH : hand as m1 = some (ks, m2)) (hC : cf f ks = .ok (.o k, ks')) (hG : give as ks' m2 = some m3) (hA : (looks as && !k.apart) = false) : (Ex.call f es).ev cf cs m = .ok (.o k, m3) := by
  show ((es.eva cf cs m).bind fun (as, m1) => callWith cf f as m1) = _
  rw [h]
  show callWith cf f as m1 = _
  unfold callWith
  simp only [hL, hH, hC, hG, hA, Res.bind_ok, Bool.false_eq_true, if_false]
/-- a call, one datum handed on -/
theorem call1 {f : Str} {a : Ex} {m m1 : Sl} {d : D} {ks' : List M} {k x : M} (h : a.ev cf cs m = .ok (.p d, m1)) (hC : cf f [.d d] = .ok (.o k, [x])) : (Ex.call f (.r a .nil)).ev cf cs m = .ok (.o k, m1) :=
  call (as_r h as_nil rfl) rfl rfl hC rfl rfl
/-- a call, a written list and an int -/
theorem callW {f : Str} {i : Nat} {a : Ex} {m m1 : Sl} {d : D} {ks' : List M} {q q' k x : M} (h : a.ev cf cs m = .ok (.p d, m1)) (hq : m[i]? = some (some q)) (hq1 : m1[i]? = some (some q)) (hC : cf f [q, .d d] = .ok (.o k, [q', x])) : (Ex.call f (.w i (.r a .nil))).ev cf cs m = .ok (.o k, m1.set i (some q')) := by
  refine call (as_w hq (as_r h as_nil rfl)) rfl ?_ hC ?_ rfl (m2 := m1.set i none)
  · show (match m1[i]? with
    | some (some k) => (hand [.r (.p d)] (m1.set i none)).map fun (p : List M × Sl) => (k :: p.1, p.2)
    | _ => none) = _
    rw [hq1]
    rfl
  · show some ((m1.set i none).set i (some q')) = _
    rw [List.set_set]
theorem frz {i : Nat} {m : Sl} {k : M} (h : m[i]? = some (some k)) (hf : k.fine = true) : (Ex.frz i).ev cf cs m = .ok (.p k.data, m.set i (some (.d k.data))) := by
  show (match m[i]? with
    | some (some k) => if k.fine = true then Res.ok (Rv.p k.data, m.set i (some (.d k.data))) else .bad
    | _ => (.bad : Res (Rv × Sl))) = _
  rw [h]
  show (if k.fine = true then _ else _) = _
  rw [if_pos hf]
/-! ### statements -/
theorem seq_nx {s : St} {r : Sts} {m m1 : Sl} {z : Res Out} (h : s.run cf cs fu m = .ok (.nx m1)) (g : r.runs cf cs fu m1 = z) : (Sts.cons s r).runs cf cs fu m = z := by
  show (match s.run cf cs fu m with
  | .ok (.nx m1) => r.runs cf cs fu m1
  | x => x) = _
  rw [h]
  exact g
theorem seq_rt {s : St} {r : Sts} {m m1 : Sl} {k : M} (h : s.run cf cs fu m = .ok (.rt k m1)) : (Sts.cons s r).runs cf cs fu m = .ok (.rt k m1) := by
  show (match s.run cf cs fu m with
  | .ok (.nx m1) => r.runs cf cs fu m1
  | x => x) = _
  rw [h]
theorem nil {m : Sl} : Sts.nil.runs cf cs fu m = .ok (.nx m) := rfl
theorem set {i : Nat} {e : Ex} {m m1 m2 : Sl} {r : Rv} {k : M} (h : e.ev cf cs m = .ok (r, m1)) (ho : ownM r = some k) (hp : putS i k m1 = some m2) : (St.set i e).run cf cs fu m = .ok (.nx m2) := by
  show ((e.ev cf cs m).bind fun (r, m1) => match ownM r with
  | some k => outN (putS i k m1)
  | none => .bad) = _
  rw [h]
  show (match ownM r with
  | some k => outN (putS i k m1)
  | none => .bad) = _
  rw [ho]
  show outN (putS i k m1) = _
  rw [hp]
  rfl
theorem ret {e : Ex} {m m1 : Sl} {r : Rv} {k : M} (h : e.ev cf cs m = .ok (r, m1)) (ho : ownM r = some k) : (St.ret e).run cf cs fu m = .ok (.rt k m1) := by
  show retF (e.ev cf cs) m = _
  unfold retF
  rw [h]
  simp only [Res.bind_ok, ho]
theorem cond {c : Ex} {m m1 : Sl} {t : Bool} (h : c.ev cf cs m = .ok (.p (.bool t), m1)) : condF (c.ev cf cs) m = .ok (t, m1) := by
  unfold condF
  rw [h]
  rfl
theorem if_t {c : Ex} {a b : Sts} {m m1 : Sl} {z : Res Out} (h : c.ev cf cs m = .ok (.p (.bool true), m1)) (g : a.runs cf cs fu m1 = z) : (St.ite c a b).run cf cs fu m = z := by
  show ((condF (c.ev cf cs) m).bind fun (t, m1) => if t = true then a.runs cf cs fu m1 else b.runs cf cs fu m1) = _
  rw [cond h]
  exact g
theorem if_f {c : Ex} {a b : Sts} {m m1 : Sl} {z : Res Out} (h : c.ev cf cs m = .ok (.p (.bool false), m1)) (g : b.runs cf cs fu m1 = z) : (St.ite c a b).run cf cs fu m = z := by
  show ((condF (c.ev cf cs) m).bind fun (t, m1) => if t = true then a.runs cf cs fu m1 else b.runs cf cs fu m1) = _
  rw [cond h]
  exact g
theorem up {i : Nat} {g : M → Rv → Option M} {fe : EvF} {m m1 : Sl} {r : Rv} {k0 k k' : M} (h0 : m[i]? = some (some k0)) (hl : k0.isLst = true) (h : fe m = .ok (r, m1)) (h1 : m1[i]? = some (some k)) (hg : g k r = some k') : dropF (upF i g fe) m = .ok (.nx (m1.set i (some k'))) := by
  unfold dropF upF atF upG
  simp only [h0, hl, if_true, h, Res.bind_ok, h1, hg]
theorem app {i : Nat} {e : Ex} {m m1 : Sl} {r : Rv} {k0 k k' : M} (h0 : m[i]? = some (some k0)) (hl : k0.isLst = true) (h : e.ev cf cs m = .ok (r, m1)) (h1 : m1[i]? = some (some k)) (hg : addTo k r = some k') : (St.app i e).run cf cs fu m = .ok (.nx (m1.set i (some k'))) := up h0 hl h h1 hg
theorem ext {i : Nat} {e : Ex} {m m1 : Sl} {r : Rv} {k0 k k' : M} (h0 : m[i]? = some (some k0)) (hl : k0.isLst = true) (h : e.ev cf cs m = .ok (r, m1)) (h1 : m1[i]? = some (some k)) (hg : extTo k r = some k') : (St.ext i e).run cf cs fu m = .ok (.nx (m1.set i (some k'))) := up h0 hl h h1 hg
theorem appX {i : Nat} {a e : Ex} {m m1 m2 : Sl} {j : Int} {r : Rv} {k0 k k' : M} (h0 : m[i]? = some (some k0)) (hl : k0.isLst = true) (ha : a.ev cf cs m = .ok (.p (.int j), m1)) (h1 : m1[i]? = some (some k)) (hj : isLV j k = true) (he : e.ev cf cs m1 = .ok (r, m2)) (h2 : m2[i]? = some (some k)) (hg : addAt k j r = some k') : (St.appX i a e).run cf cs fu m = .ok (.nx (m2.set i (some k'))) := by
  show dropF (upIF i addAt (a.ev cf cs) (e.ev cf cs)) m = _
  unfold dropF upIF atF intB upG
  simp only [h0, hl, if_true, ha, Res.bind_ok, Rv.m, M.int?, h1, hj, he, h2, hg]
theorem setI {i : Nat} {a e : Ex} {m m1 m2 : Sl} {j : Int} {r : Rv} {k k' : M} (he : e.ev cf cs m = .ok (r, m1)) (hi : m1[i]? = some (some k)) (ha : a.ev cf cs m1 = .ok (.p (.int j), m2)) (hB : (r.isB && !a.pu) = false) (h2 : m2[i]? = some (some k)) (hg : setTo k j r = some k') : (St.setI i a e).run cf cs fu m = .ok (.nx (m2.set i (some k'))) := by
  show setIF i a.pu (e.ev cf cs) (a.ev cf cs) m = _
  unfold setIF arR arW arNil
  simp only [he, Res.bind_ok, hi, ha, hB, Bool.not_true, Bool.and_false, Bool.false_eq_true, if_false, Rv.m, M.int?, h2, hg]
theorem aug {i : Nat} {p : P2} {e : Ex} {m m1 m2 : Sl} {a b c : Int} (h0 : m[i]? = some (some (.d (.int a)))) (h : e.ev cf cs m = .ok (.p (.int b), m1)) (hp : augI p a b = some c) (h2 : putS i (.d (.int c)) m1 = some m2) : (St.aug i p e).run cf cs fu m = .ok (.nx m2) := by
  show augF i p (e.ev cf cs) m = _
  unfold augF
  simp only [h0, h, Res.bind_ok, Rv.m, M.int?, hp, h2]
  rfl
theorem forS {t : Tg} {it : Itx} {b : Sts} {m m1 : Sl} {ds : List D} {z : Res Out} (h : it.evi cf cs b.pu m = .ok (ds, m1)) (g : forF t (b.runs cf cs fu) ds m1 = z) : (St.forS t it b).run cf cs fu m = z := by
  show ((it.evi cf cs b.pu m).bind fun (ds, m1) => forF t (b.runs cf cs fu) ds m1) = _
  rw [h]
  exact g
theorem whl {c : Ex} {b : Sts} {m : Sl} {z : Res Out} (g : whlF (condF (c.ev cf cs)) (b.runs cf cs fu) fu m = z) : (St.whl c b).run cf cs fu m = z := g
/-! ### loops -/
theorem for_inv {t : Tg} {body : StF} (J : List D → Sl → Prop) (h : ∀ d ds m, J (d :: ds) m → ∃ m1 m2, t.put d m = some m1 ∧ body m1 = .ok (.nx m2) ∧ J ds m2) : ∀ (ds : List D) (m : Sl), J ds m → ∃ m', forF t body ds m = .ok (.nx m') ∧ J [] m'
  | [], m, j => ⟨m, rfl, j⟩
  | d :: ds, m, j => by
    obtain ⟨m1, m2, e1, e2, j2⟩ := h d ds m j
    obtain ⟨m', e3, j3⟩ := for_inv J h ds m2 j2
    refine ⟨m', ?_, j3⟩
    unfold forF
    simp only [e1, e2, e3]
/-- over a list that was written down: a state is carried along -/
theorem for_fold {α β : Type} {t : Tg} {body : StF} (enc : β → D) (S : α → Sl) (f : α → β → α) (I : α → Prop) : ∀ (xs : List β) (a : α), I a → (∀ x ∈ xs, ∀ a, I a → ∃ m1, t.put (enc x) (S a) = some m1 ∧ body m1 = .ok (.nx (S (f a x))) ∧ I (f a x)) → forF t body (xs.map enc) (S a) = .ok (.nx (S (xs.foldl f a))) ∧ I (xs.foldl f a)
  | [], a, i, _ => ⟨rfl, i⟩
  | x :: xs, a, i, h => by
    obtain ⟨m1, e1, e2, i2⟩ := h x List.mem_cons_self a i
    obtain ⟨e3, i3⟩ := for_fold enc S f I xs (f a x) i2 fun y hy => h y (List.mem_cons_of_mem _ hy)
    refine ⟨?_, i3⟩
    rw [List.map_cons, List.foldl_cons]
    unfold forF
    simp only [e1, e2, e3]
theorem whl_inv {c : Sl → Res (Bool × Sl)} {body : StF} (J : Nat → Sl → Prop) (Q : Sl → Prop) (h : ∀ n m, J n m → (∃ m1, c m = .ok (false, m1) ∧ Q m1) ∨ ∃ m1 m2 k, c m = .ok (true, m1) ∧ body m1 = .ok (.nx m2) ∧ k < n ∧ J k m2) : ∀ (fu n : Nat) (m : Sl), n < fu → J n m → ∃ m', whlF c body fu m = .ok (.nx m') ∧ Q m'
  | 0, n, m, hn, _ => absurd hn (Nat.not_lt_zero n)
  | fu + 1, n, m, hn, j => by
    rcases h n m j with ⟨m1, e, q⟩ | ⟨m1, m2, k, e1, e2, hk, j2⟩
    · refine ⟨m1, ?_, q⟩
      unfold whlF
      simp only [e]
    · obtain ⟨m', e3, q⟩ := whl_inv J Q h fu k m2 (by omega) j2
      refine ⟨m', ?_, q⟩
      unfold whlF
      simp only [e1, e2, e3]
/-! ### comprehensions -/
theorem turns_inv {own : Bool} {t : Tg} {cond : Sl → Res (Bool × Sl)} {elt : EvF} (J : List D → Sl → List M → Prop) (h : ∀ d ds m acc, J (d :: ds) m acc → ∃ m1 m2, t.put d (clr m t.slots) = some m1 ∧ ((cond m1 = .ok (false, m2) ∧ J ds m2 acc) ∨ ∃ r m3 k, cond m1 = .ok (true, m2) ∧ elt m2 = .ok (r, m3) ∧ keepM own r = some k ∧ acc.length < big ∧ J ds m3 (acc ++ [k]))) : ∀ (ds : List D) (m : Sl) (acc : List M), J ds m acc → ∃ m' acc', turns own t cond elt ds m acc = .ok (acc', m') ∧ J [] m' acc'
  | [], m, acc, j => ⟨m, acc, rfl, j⟩
  | d :: ds, m, acc, j => by
    obtain ⟨m1, m2, e1, ⟨e2, j2⟩ | ⟨r, m3, k, e2, e3, e4, hl, j2⟩⟩ := h d ds m acc j
    · obtain ⟨m', acc', e, j3⟩ := turns_inv J h ds m2 acc j2
      refine ⟨m', acc', ?_, j3⟩
      unfold turns
      simp only [e1, e2, e]
    · obtain ⟨m', acc', e, j3⟩ := turns_inv J h ds m3 (acc ++ [k]) j2
      refine ⟨m', acc', ?_, j3⟩
      unfold turns
      simp only [e1, e2, e3, e4, hl, if_true, e]
theorem comp_of {own : Bool} {elt : Ex} {t : Tg} {it : Itx} {cd : Exs} {m m1 m2 : Sl} {ds : List D} {acc : List M} (hs : it.evi cf cs (elt.pu && cd.pu) m = .ok (ds, m1)) (ht : turns own t (cd.evc cf cs) (elt.ev cf cs) ds m1 [] = .ok (acc, m2)) : (Ex.comp own elt t it cd).ev cf cs m = .ok (.o (listM own acc), back m1 m2 t.slots) := by
  show compF own t (cd.evc cf cs) (elt.ev cf cs) (it.evi cf cs (elt.pu && cd.pu)) m = _
  unfold compF
  rw [hs]
  show ((turns own t (cd.evc cf cs) (elt.ev cf cs) ds m1 []).bind _) = _
  rw [ht]
  rfl
/-- pure elements of a list that is written down, some left out -/
theorem turns_filter {β : Type} {t : Tg} {cond : Sl → Res (Bool × Sl)} {elt : EvF} (enc : β → D) (m0 : Sl) (md : β → Sl) (p : β → Bool) (g : β → D) : ∀ (xs : List β) (m : Sl) (acc : List D), clr m t.slots = m0 → (∀ x ∈ xs, t.put (enc x) m0 = some (md x) ∧ clr (md x) t.slots = m0 ∧ cond (md x) = .ok (p x, md x) ∧ (p x = true → ∃ r, elt (md x) = .ok (r, md x) ∧ keepM false r = some (.d (g x)))) → acc.length + xs.length ≤ big → ∃ m', turns false t cond elt (xs.map enc) m (acc.map .d) = .ok ((acc ++ (xs.filter p).map g).map .d, m') ∧ (m' = m ∨ ∃ x ∈ xs, m' = md x)
  | [], m, acc, hm, _, _ => ⟨m, by simp [turns], .inl rfl⟩
  | x :: xs, m, acc, hm, h, hl => by
    obtain ⟨e1, e2, e3, e4⟩ := h x List.mem_cons_self
    have h2 := fun y hy => h y (List.mem_cons_of_mem x hy)
    rw [List.length_cons] at hl
    cases hp : p x with
    | false =>
      obtain ⟨m', e, q⟩ := turns_filter enc m0 md p g xs (md x) acc e2 h2 (by omega)
      refine ⟨m', ?_, .inr ?_⟩
      · rw [List.map_cons]
        unfold turns
        rw [hp] at e3
        simp only [hm, e1, e3, e, List.filter_cons, hp, Bool.false_eq_true, if_false]
      · rcases q with rfl | ⟨y, hy, rfl⟩
        · exact ⟨x, List.mem_cons_self, rfl⟩
        · exact ⟨y, List.mem_cons_of_mem _ hy, rfl⟩
    | true =>
      obtain ⟨r, e5, e6⟩ := e4 hp
      obtain ⟨m', e, q⟩ := turns_filter enc m0 md p g xs (md x) (acc ++ [g x]) e2 h2 (by simp; omega)
      refine ⟨m', ?_, .inr ?_⟩
      · rw [List.map_cons]
        unfold turns
        rw [hp] at e3
        rw [List.map_append] at e
        simp only [hm, e1, e3, e5, e6]
        rw [if_pos (by rw [List.length_map]; omega)]
        simp only [List.map_cons, List.map_nil] at e
        rw [e, List.filter_cons, if_pos hp, List.map_cons, List.append_assoc, List.singleton_append]
      · rcases q with rfl | ⟨y, hy, rfl⟩
        · exact ⟨x, List.mem_cons_self, rfl⟩
        · exact ⟨y, List.mem_cons_of_mem _ hy, rfl⟩
theorem datas_d : ∀ xs : List D, M.datas (xs.map .d) = xs
  | [] => rfl
  | x :: xs => by
    rw [List.map_cons]
    show M.data (.d x) :: M.datas (xs.map .d) = _
    rw [datas_d xs]
    rfl
theorem comp_filter {β : Type} {elt : Ex} {t : Tg} {it : Itx} {cd : Exs} {m m1 mf : Sl} (enc : β → D) (xs : List β) (m0 : Sl) (md : β → Sl) (p : β → Bool) (g : β → D) (hs : it.evi cf cs (elt.pu && cd.pu) m = .ok (xs.map enc, m1)) (h0 : clr m1 t.slots = m0) (h : ∀ x ∈ xs, t.put (enc x) m0 = some (md x) ∧ clr (md x) t.slots = m0 ∧ cd.evc cf cs (md x) = .ok (p x, md x) ∧ (p x = true → ∃ r, elt.ev cf cs (md x) = .ok (r, md x) ∧ keepM false r = some (.d (g x)))) (hl : xs.length ≤ big) (hb0 : back m1 m1 t.slots = mf) (hb : ∀ x ∈ xs, back m1 (md x) t.slots = mf) : (Ex.comp false elt t it cd).ev cf cs m = .ok (.o (.v ((xs.filter p).map g)), mf) := by
  obtain ⟨m', e, q⟩ := turns_filter enc m0 md p g xs m1 [] h0 h (by simpa using hl)
  rw [comp_of hs e]
  have e1 : back m1 m' t.slots = mf := by
    rcases q with rfl | ⟨x, hx, rfl⟩
    · exact hb0
    · exact hb x hx
  rw [e1]
  show Res.ok (Rv.o (.v (M.datas _)), mf) = _
  rw [datas_d, List.nil_append]
theorem comp_map {β : Type} {elt : Ex} {t : Tg} {it : Itx} {m m1 mf : Sl} (enc : β → D) (xs : List β) (m0 : Sl) (md : β → Sl) (g : β → D) (hs : it.evi cf cs (elt.pu && Exs.nil.pu) m = .ok (xs.map enc, m1)) (h0 : clr m1 t.slots = m0) (h : ∀ x ∈ xs, t.put (enc x) m0 = some (md x) ∧ clr (md x) t.slots = m0 ∧ ∃ r, elt.ev cf cs (md x) = .ok (r, md x) ∧ keepM false r = some (.d (g x))) (hl : xs.length ≤ big) (hb0 : back m1 m1 t.slots = mf) (hb : ∀ x ∈ xs, back m1 (md x) t.slots = mf) : (Ex.comp false elt t it .nil).ev cf cs m = .ok (.o (.v (xs.map g)), mf) := by
  have q := comp_filter (cd := .nil) enc xs m0 md (fun _ => true) g hs h0 (fun x hx => by
    obtain ⟨a, b, c⟩ := h x hx
    exact ⟨a, b, rfl, fun _ => c⟩) hl hb0 hb
  rw [List.filter_eq_self.mpr (fun _ _ => rfl)] at q
  exact q
/-! ### defs -/
theorem def_rt {fn : Fn} {ks ks' : List M} {k : M} {m : Sl} (h : fn.body.runs cf cs fu (slots0 fn.N.length ks) = .ok (.rt k m)) (hb : backs fn.wp ks m = some ks') : fnF cf cs fu fn ks = .ok (.o k, ks') := by
  unfold fnF
  rw [h]
  show endF fn.wp ks k m = _
  unfold endF
  rw [hb]
end V
/-! ### primitives -/
theorem dlt_int (i j : Int) : PySem.W.dataLt (.int i) (.int j) = decide (i < j) := PySem.W.dataLt_int i j
theorem p_eq_int (i j : Int) : P.eq [.p (.int i), .p (.int j)] = .ok (.p (.bool (decide (i = j)))) := by
  have e : P.eq [.p (.int i), .p (.int j)] = .ok (.p (.bool (i == j))) := rfl
  rw [e]
  rfl
theorem p_lt_int (i j : Int) : P.lt [.p (.int i), .p (.int j)] = .ok (.p (.bool (decide (i < j)))) := by
  have e : P.lt [.p (.int i), .p (.int j)] = .ok (.p (.bool (PySem.W.dataLt (.int i) (.int j)))) := rfl
  rw [e, dlt_int]
theorem p_gt_int (i j : Int) : P.gt [.p (.int i), .p (.int j)] = .ok (.p (.bool (decide (j < i)))) := by
  have e : P.gt [.p (.int i), .p (.int j)] = .ok (.p (.bool (PySem.W.dataLt (.int j) (.int i)))) := rfl
  rw [e, dlt_int]
theorem p_ge_int (i j : Int) : P.ge [.p (.int i), .p (.int j)] = .ok (.p (.bool (decide (j ≤ i)))) := by
  have e : P.ge [.p (.int i), .p (.int j)] = .ok (.p (.bool (!PySem.W.dataLt (.int i) (.int j)))) := rfl
  rw [e, dlt_int]
  congr 4
  by_cases h : i < j
  · simp [h]
  · simp [h]
    omega
theorem p_le_int (i j : Int) : P.le [.p (.int i), .p (.int j)] = .ok (.p (.bool (decide (i ≤ j)))) := by
  have e : P.le [.p (.int i), .p (.int j)] = .ok (.p (.bool (!PySem.W.dataLt (.int j) (.int i)))) := rfl
  rw [e, dlt_int]
  congr 4
  by_cases h : j < i
  · simp [h]
  · simp [h]
    omega
theorem p_ne_int (i j : Int) : P.ne [.p (.int i), .p (.int j)] = .ok (.p (.bool (decide (i ≠ j)))) := by
  have e : P.ne [.p (.int i), .p (.int j)] = .ok (.p (.bool (!(i == j)))) := rfl
  rw [e]
  congr 4
  by_cases h : i = j <;> simp [h]
theorem p_mul_int {i j : Int} (h : i.natAbs.log2 + j.natAbs.log2 < 1000000) : P.mul [.p (.int i), .p (.int j)] = .ok (.p (.int (i * j))) := by
  show (if i.natAbs.log2 + j.natAbs.log2 < 1000000 then _ else _) = _
  rw [if_pos h]
theorem p_mod_int {i j : Int} (h : 0 < j) : P.mod [.p (.int i), .p (.int j)] = .ok (.p (.int (i % j))) := by
  show Res.bind (if 0 < j then Res.ok (PyData.int (i % j)) else .bad) _ = _
  rw [if_pos h]
  rfl
theorem p_fdiv_int {i j : Int} (h : 0 < j) (h2 : j.natAbs.log2 < 9000) : P.fdiv [.p (.int i), .p (.int j)] = .ok (.p (.int (i / j))) := by
  show Res.bind (if 0 < j ∧ j.natAbs.log2 < 9000 then Res.ok (PyData.int (i / j)) else .bad) _ = _
  rw [if_pos ⟨h, h2⟩]
  rfl
theorem at_nat {α : Type} {xs : List α} {n : Nat} (h : n < xs.length) : atI xs (n : Int) = some xs[n] := by
  unfold atI ixN
  rw [if_pos (by omega), if_pos (by omega)]
  show xs[(n : Int).toNat]? = _
  rw [Int.toNat_natCast, List.getElem?_eq_getElem h]
theorem at_last {α : Type} {xs : List α} (h : 0 < xs.length) : atI xs (-1) = some xs[xs.length - 1] := by
  unfold atI ixN
  rw [if_neg (by omega), if_pos (by omega)]
  show xs[(-1 + (xs.length : Int)).toNat]? = _
  rw [show (-1 + (xs.length : Int)).toNat = xs.length - 1 by omega, List.getElem?_eq_getElem (by omega)]
end Oa

/-! Values of the small language, to be worked out by simp. -/
namespace Oa
open PySem PySem.Spec PyProof.Rows L2
namespace S
variable {cf : CfT} {cs : Str → Option D} {fu : Nat} {m : Sl}
def vr {α : Type} (o : Option (Option M)) (f : M → Res α) : Res α := match o with
  | some (some k) => f k
  | _ => Res.bad
@[simp] theorem vr_some {α : Type} (k : M) (f : M → Res α) : vr (some (some k)) f = f k := rfl
def b3 {α : Type} (o : Option Bool) (A B : Res α) : Res α := match o with
  | some true => A
  | some false => B
  | none => Res.bad
@[simp] theorem b3_some {α : Type} (b : Bool) (A B : Res α) : b3 (some b) A B = if b = true then A else B := by cases b <;> rfl
def i3 {α : Type} (o : Option Int) (A : Int → Res α) : Res α := match o with
  | some i => A i
  | none => Res.bad
@[simp] theorem i3_some {α : Type} (i : Int) (A : Int → Res α) : i3 (some i) A = A i := rfl
/-! pu -/
@[simp] theorem pu_int {i : Int} : (Ex.int i).pu = true := rfl
@[simp] theorem pu_bl {i : Bool} : (Ex.bl i).pu = true := rfl
@[simp] theorem pu_non : Ex.non.pu = true := rfl
@[simp] theorem pu_str {i : Str} : (Ex.str i).pu = true := rfl
@[simp] theorem pu_var {i : Nat} : (Ex.var i).pu = true := rfl
@[simp] theorem pu_frz {i : Nat} : (Ex.frz i).pu = true := rfl
@[simp] theorem pu_mov {i : Nat} : (Ex.mov i).pu = true := rfl
@[simp] theorem pu_p1 {p : P1} {a : Ex} : (Ex.p1 p a).pu = a.pu := rfl
@[simp] theorem pu_p2 {p : P2} {a b : Ex} : (Ex.p2 p a b).pu = (a.pu && b.pu) := rfl
@[simp] theorem pu_neg {a : Ex} : (Ex.neg a).pu = a.pu := rfl
@[simp] theorem pu_rev {a : Ex} : (Ex.rev a).pu = a.pu := rfl
@[simp] theorem pu_isi {a : Ex} {c : String} : (Ex.isi a c).pu = a.pu := rfl
@[simp] theorem pu_isi2 {a : Ex} {c d : String} : (Ex.isi2 a c d).pu = a.pu := rfl
@[simp] theorem pu_not {a : Ex} : (Ex.not a).pu = a.pu := rfl
@[simp] theorem pu_and {a b : Ex} : (Ex.and a b).pu = (a.pu && b.pu) := rfl
@[simp] theorem pu_or {a b : Ex} : (Ex.or a b).pu = (a.pu && b.pu) := rfl
@[simp] theorem pu_slL {a b : Ex} : (Ex.slL a b).pu = (a.pu && b.pu) := rfl
@[simp] theorem pu_slH {a b : Ex} : (Ex.slH a b).pu = (a.pu && b.pu) := rfl
@[simp] theorem pu_slB {a b c : Ex} : (Ex.slB a b c).pu = (a.pu && (b.pu && c.pu)) := rfl
@[simp] theorem pu_ite {a b c : Ex} : (Ex.ite a b c).pu = (a.pu && (b.pu && c.pu)) := rfl
@[simp] theorem pu_cmp2 {p q : P2} {a b c : Ex} : (Ex.cmp2 p q a b c).pu = (a.pu && (b.pu && c.pu)) := rfl
@[simp] theorem pu_ix {i : Nat} {a : Ex} : (Ex.ix i a).pu = a.pu := rfl
@[simp] theorem pu_pop {i : Nat} : (Ex.pop i).pu = false := rfl
@[simp] theorem pu_popAt {i : Nat} {a : Ex} : (Ex.popAt i a).pu = false := rfl
@[simp] theorem pu_tup {es : Exs} : (Ex.tup es).pu = es.pu := rfl
@[simp] theorem pu_lst {o : Bool} {es : Exs} : (Ex.lst o es).pu = es.pu := rfl
@[simp] theorem pu_call {f : Str} {es : Ars} : (Ex.call f es).pu = es.pu := rfl
@[simp] theorem pu_comp {o : Bool} {e : Ex} {t : Tg} {it : Itx} {cd : Exs} : (Ex.comp o e t it cd).pu = (it.pu && (e.pu && cd.pu)) := rfl
@[simp] theorem pus_nil : Exs.nil.pu = true := rfl
@[simp] theorem pus_cons {e : Ex} {es : Exs} : (Exs.cons e es).pu = (e.pu && es.pu) := rfl
@[simp] theorem pua_nil : Ars.nil.pu = true := rfl
@[simp] theorem pua_r {e : Ex} {es : Ars} : (Ars.r e es).pu = (e.pu && es.pu) := rfl
@[simp] theorem pua_w {i : Nat} {es : Ars} : (Ars.w i es).pu = false := rfl
@[simp] theorem pui_ex {e : Ex} : (Itx.ex e).pu = e.pu := rfl
@[simp] theorem pui_rng1 {e : Ex} : (Itx.rng1 e).pu = e.pu := rfl
@[simp] theorem pui_enu {e : Ex} : (Itx.enu e).pu = e.pu := rfl
@[simp] theorem pui_rng2 {a b : Ex} : (Itx.rng2 a b).pu = (a.pu && b.pu) := rfl
@[simp] theorem pui_rngD {a b : Ex} : (Itx.rngD a b).pu = (a.pu && b.pu) := rfl
@[simp] theorem pui_zip {a b : Ex} : (Itx.zip a b).pu = (a.pu && b.pu) := rfl
/-! small reads -/
@[simp] theorem isB_o {k : M} : (Rv.o k).isB = false := rfl
@[simp] theorem isB_b {k : M} : (Rv.b k).isB = true := rfl
@[simp] theorem look_d {x : D} : look (.d x) = .o (.d x) := rfl
@[simp] theorem look_v {x : List D} : look (.v x) = .b (.v x) := rfl
@[simp] theorem look_l {x : List M} : look (.l x) = .b (.l x) := rfl
@[simp] theorem look_s {x : List D} : look (.s x) = .b (.s x) := rfl
@[simp] theorem m_o {k : M} : (Rv.o k).m = k := rfl
@[simp] theorem m_b {k : M} : (Rv.b k).m = k := rfl
@[simp] theorem fine_d {x : D} : M.fine (.d x) = true := rfl
@[simp] theorem fine_v {x : List D} : M.fine (.v x) = true := rfl
@[simp] theorem bl_b {b : Bool} : M.bl? (.d (.bool b)) = some b := rfl
@[simp] theorem int_i {b : Int} : M.int? (.d (.int b)) = some b := rfl
@[simp] theorem data_d {x : D} : M.data (.d x) = x := rfl
@[simp] theorem data_v {x : List D} : M.data (.v x) = .list x := rfl
@[simp] theorem own_o {k : M} : ownM (.o k) = some k := rfl
@[simp] theorem own_b {x : D} : ownM (.b (.d x)) = some (.d x) := rfl
@[simp] theorem pure_d {x : D} : Rv.pure? (.o (.d x)) = some x := rfl
@[simp] theorem pure_v {x : List D} : Rv.pure? (.o (.v x)) = some (.list x) := rfl
@[simp] theorem keep_d {x : D} {o : Bool} : keepM o (.o (.d x)) = some (.d x) := by cases o <;> rfl
@[simp] theorem keep_v {x : List D} : keepM false (.o (.v x)) = some (.d (.list x)) := rfl
@[simp] theorem keep_vt {x : List D} : keepM true (.o (.v x)) = some (.v x) := rfl
@[simp] theorem isLst_v {x : List D} : M.isLst (.v x) = true := rfl
@[simp] theorem isLst_l {x : List M} : M.isLst (.l x) = true := rfl
@[simp] theorem items_v {x : List D} : M.items (.v x) = some (false, x) := rfl
@[simp] theorem items_dl {x : List D} : M.items (.d (.list x)) = some (false, x) := rfl
@[simp] theorem items_dt {x : List D} : M.items (.d (.tuple x)) = some (true, x) := rfl
/-! expressions -/
theorem ev2_eq (p : Pf) (pb : Bool) (fa fb : EvF) (m : Sl) : ev2 p pb fa fb m = (fa m).bind fun x => (fb x.2).bind fun y => if (x.1.isB && !pb) = true then Res.bad else (p [x.1, y.1]).bind fun r => Res.ok (r, y.2) := by
  show ((evsCons pb fa (evsCons true fb evsNil) m).bind fun (rs, m1) => (p rs).bind fun r => Res.ok (r, m1)) = _
  unfold evsCons
  cases fa m with
  | ok x =>
    obtain ⟨r, m1⟩ := x
    simp only [Res.bind_ok]
    cases fb m1 with
    | ok y =>
      obtain ⟨q, m2⟩ := y
      simp only [Res.bind_ok, evsNil, Bool.not_true, Bool.and_false, Bool.false_eq_true, if_false]
      split <;> rfl
    | er c x => rfl
    | bad => rfl
  | er c x => rfl
  | bad => rfl
theorem ev1_eq (p : Pf) (fa : EvF) (m : Sl) : ev1 p fa m = (fa m).bind fun x => (p [x.1]).bind fun r => Res.ok (r, x.2) := by
  show ((evsCons true fa evsNil m).bind fun (rs, m1) => (p rs).bind fun r => Res.ok (r, m1)) = _
  unfold evsCons
  cases fa m with
  | ok x =>
    obtain ⟨r, m1⟩ := x
    simp only [Res.bind_ok, evsNil, Bool.not_true, Bool.and_false, Bool.false_eq_true, if_false]
  | er c x => rfl
  | bad => rfl
theorem ev3_eq (p : Pf) (pb pc : Bool) (fa fb fc : EvF) (m : Sl) : ev3 p pb pc fa fb fc m = (fa m).bind fun x => (fb x.2).bind fun y => (fc y.2).bind fun z => if (y.1.isB && !pc) = true then Res.bad else if (x.1.isB && !(pb && pc)) = true then Res.bad else (p [x.1, y.1, z.1]).bind fun r => Res.ok (r, z.2) := by
  show ((evsCons (pb && pc) fa (evsCons pc fb (evsCons true fc evsNil)) m).bind fun (rs, m1) => (p rs).bind fun r => Res.ok (r, m1)) = _
  unfold evsCons
  cases fa m with
  | ok x =>
    obtain ⟨r, m1⟩ := x
    simp only [Res.bind_ok]
    cases fb m1 with
    | ok y =>
      obtain ⟨q, m2⟩ := y
      simp only [Res.bind_ok]
      cases fc m2 with
      | ok z =>
        obtain ⟨q, m2⟩ := z
        simp only [Res.bind_ok, evsNil, Bool.not_true, Bool.and_false, Bool.false_eq_true, if_false]
        split
        · rfl
        · simp only [Res.bind_ok]
          split <;> rfl
      | er c x => rfl
      | bad => rfl
    | er c x => rfl
    | bad => rfl
  | er c x => rfl
  | bad => rfl
@[simp] theorem ev_int {i : Int} : (Ex.int i).ev cf cs m = .ok (.o (.d (.int i)), m) := rfl
@[simp] theorem ev_bl {i : Bool} : (Ex.bl i).ev cf cs m = .ok (.o (.d (.bool i)), m) := rfl
@[simp] theorem ev_non : Ex.non.ev cf cs m = .ok (.o (.d .none), m) := rfl
@[simp] theorem ev_str {i : Str} : (Ex.str i).ev cf cs m = .ok (.o (.d (.str i)), m) := rfl
@[simp] theorem ev_var {i : Nat} : (Ex.var i).ev cf cs m = vr m[i]? fun k => Res.ok (look k, m) := by
  show (match m[i]? with
    | some (some k) => Res.ok (look k, m)
    | _ => Res.bad) = _
  rcases m[i]? with _ | _ | k <;> rfl
@[simp] theorem ev_frz {i : Nat} : (Ex.frz i).ev cf cs m = vr m[i]? fun k => if k.fine = true then Res.ok (.o (.d k.data), m.set i (some (.d k.data))) else Res.bad := by
  show (match m[i]? with
    | some (some k) => if k.fine = true then Res.ok (Rv.p k.data, m.set i (some (.d k.data))) else Res.bad
    | _ => Res.bad) = _
  rcases m[i]? with _ | _ | k <;> rfl
@[simp] theorem ev_mov {i : Nat} : (Ex.mov i).ev cf cs m = vr m[i]? fun k => Res.ok (Rv.o k, m.set i none) := by
  show (match m[i]? with
    | some (some k) => Res.ok (Rv.o k, m.set i none)
    | _ => Res.bad) = _
  rcases m[i]? with _ | _ | k <;> rfl
@[simp] theorem ev_p1 {p : P1} {a : Ex} : (Ex.p1 p a).ev cf cs m = (a.ev cf cs m).bind fun x => (p.f [x.1]).bind fun r => Res.ok (r, x.2) := ev1_eq _ _ _
@[simp] theorem ev_neg {a : Ex} : (Ex.neg a).ev cf cs m = (a.ev cf cs m).bind fun x => (P.neg [x.1]).bind fun r => Res.ok (r, x.2) := ev1_eq _ _ _
@[simp] theorem ev_rev {a : Ex} : (Ex.rev a).ev cf cs m = (a.ev cf cs m).bind fun x => (P.rev [x.1]).bind fun r => Res.ok (r, x.2) := ev1_eq _ _ _
@[simp] theorem ev_isi {a : Ex} {c : String} : (Ex.isi a c).ev cf cs m = (a.ev cf cs m).bind fun x => (P.isi [c] x.1).bind fun r => Res.ok (r, x.2) := ev1_eq (isiF [c]) _ _
@[simp] theorem ev_isi2 {a : Ex} {c d : String} : (Ex.isi2 a c d).ev cf cs m = (a.ev cf cs m).bind fun x => (P.isi [c, d] x.1).bind fun r => Res.ok (r, x.2) := ev1_eq (isiF [c, d]) _ _
@[simp] theorem ev_p2 {p : P2} {a b : Ex} : (Ex.p2 p a b).ev cf cs m = (a.ev cf cs m).bind fun x => (b.ev cf cs x.2).bind fun y => if (x.1.isB && !b.pu) = true then Res.bad else (p.f [x.1, y.1]).bind fun r => Res.ok (r, y.2) := ev2_eq _ _ _ _ _
theorem slF_tf (a b : Rv) : slF true false [a, b] = i3 b.m.int? fun i => P.slice (some i) none a := by
  show (match b.m.int? with
    | some i => P.slice (some i) none a
    | none => Res.bad) = _
  cases b.m.int? <;> rfl
theorem slF_ft (a b : Rv) : slF false true [a, b] = i3 b.m.int? fun i => P.slice none (some i) a := by
  show (match b.m.int? with
    | some i => P.slice none (some i) a
    | none => Res.bad) = _
  cases b.m.int? <;> rfl
theorem slF_tt (a b c : Rv) : slF true true [a, b, c] = i3 b.m.int? fun i => i3 c.m.int? fun j => P.slice (some i) (some j) a := by
  show (match b.m.int?, c.m.int? with
    | some i, some j => P.slice (some i) (some j) a
    | _, _ => Res.bad) = _
  cases b.m.int? with
  | none => rfl
  | some i => cases c.m.int? <;> rfl
@[simp] theorem ev_slL {a b : Ex} : (Ex.slL a b).ev cf cs m = (a.ev cf cs m).bind fun x => (b.ev cf cs x.2).bind fun y => if (x.1.isB && !b.pu) = true then Res.bad else (i3 y.1.m.int? fun i => P.slice (some i) none x.1).bind fun r => Res.ok (r, y.2) := by
  have := ev2_eq (slF true false) b.pu (a.ev cf cs) (b.ev cf cs) m
  simp only [slF_tf] at this
  exact this
@[simp] theorem ev_slH {a b : Ex} : (Ex.slH a b).ev cf cs m = (a.ev cf cs m).bind fun x => (b.ev cf cs x.2).bind fun y => if (x.1.isB && !b.pu) = true then Res.bad else (i3 y.1.m.int? fun i => P.slice none (some i) x.1).bind fun r => Res.ok (r, y.2) := by
  have := ev2_eq (slF false true) b.pu (a.ev cf cs) (b.ev cf cs) m
  simp only [slF_ft] at this
  exact this
theorem intF_eq (fa : EvF) (m : Sl) : intF fa m = (fa m).bind fun x => i3 x.1.m.int? fun i => Res.ok (.o (.d (.int i)), x.2) := by
  unfold intF
  cases fa m with
  | ok x =>
    obtain ⟨r, m1⟩ := x
    simp only [Res.bind_ok]
    cases r.m.int? <;> rfl
  | er c x => rfl
  | bad => rfl
@[simp] theorem ev_slB {a b c : Ex} : (Ex.slB a b c).ev cf cs m = (a.ev cf cs m).bind fun x => (intF (b.ev cf cs) x.2).bind fun y => (c.ev cf cs y.2).bind fun z => if (y.1.isB && !c.pu) = true then Res.bad else if (x.1.isB && !(b.pu && c.pu)) = true then Res.bad else (i3 y.1.m.int? fun i => i3 z.1.m.int? fun j => P.slice (some i) (some j) x.1).bind fun r => Res.ok (r, z.2) := by
  have := ev3_eq (slF true true) b.pu c.pu (a.ev cf cs) (intF (b.ev cf cs)) (c.ev cf cs) m
  simp only [slF_tt] at this
  exact this
@[simp] theorem ev_tup {es : Exs} : (Ex.tup es).ev cf cs m = (es.evs cf cs m).bind fun x => (tupF x.1).bind fun r => Res.ok (r, x.2) := rfl
@[simp] theorem ev_lst {o : Bool} {es : Exs} : (Ex.lst o es).ev cf cs m = (es.evs cf cs m).bind fun x => (lstF o x.1).bind fun r => Res.ok (r, x.2) := rfl
@[simp] theorem ev_and {a b : Ex} : (Ex.and a b).ev cf cs m = (a.ev cf cs m).bind fun x => b3 x.1.m.bl? (b.ev cf cs x.2) (.ok (.o (.d (.bool false)), x.2)) := by
  show ((a.ev cf cs m).bind _) = _
  cases a.ev cf cs m with
  | ok x =>
    obtain ⟨r, m1⟩ := x
    simp only [Res.bind_ok]
    rcases r.m.bl? with _ | _ | _ <;> rfl
  | er c x => rfl
  | bad => rfl
@[simp] theorem ev_or {a b : Ex} : (Ex.or a b).ev cf cs m = (a.ev cf cs m).bind fun x => b3 x.1.m.bl? (.ok (.o (.d (.bool true)), x.2)) (b.ev cf cs x.2) := by
  show ((a.ev cf cs m).bind _) = _
  cases a.ev cf cs m with
  | ok x =>
    obtain ⟨r, m1⟩ := x
    simp only [Res.bind_ok]
    rcases r.m.bl? with _ | _ | _ <;> rfl
  | er c x => rfl
  | bad => rfl
def n3 (o : Option Bool) : Res Bool := match o with
  | some b => .ok b
  | none => Res.bad
@[simp] theorem n3_some (b : Bool) : n3 (some b) = .ok b := rfl
@[simp] theorem ev_not {a : Ex} : (Ex.not a).ev cf cs m = (a.ev cf cs m).bind fun x => (n3 x.1.m.bl?).bind fun b => Res.ok (.o (.d (.bool !b)), x.2) := by
  show ((a.ev cf cs m).bind _) = _
  cases a.ev cf cs m with
  | ok x =>
    obtain ⟨r, m1⟩ := x
    simp only [Res.bind_ok]
    rcases r.m.bl? with _ | _ | _ <;> rfl
  | er c x => rfl
  | bad => rfl
@[simp] theorem ev_ite {a b c : Ex} : (Ex.ite c a b).ev cf cs m = (c.ev cf cs m).bind fun x => b3 x.1.m.bl? (a.ev cf cs x.2) (b.ev cf cs x.2) := by
  show ((c.ev cf cs m).bind _) = _
  cases c.ev cf cs m with
  | ok x =>
    obtain ⟨r, m1⟩ := x
    simp only [Res.bind_ok]
    rcases r.m.bl? with _ | _ | _ <;> rfl
  | er c x => rfl
  | bad => rfl
theorem intB_eq (fa : EvF) (g : Int → EvF) (m : Sl) : intB fa g m = (fa m).bind fun x => i3 x.1.m.int? fun i => g i x.2 := by
  unfold intB
  cases fa m with
  | ok x =>
    obtain ⟨r, m1⟩ := x
    simp only [Res.bind_ok]
    cases r.m.int? <;> rfl
  | er c x => rfl
  | bad => rfl
@[simp] theorem ev_cmp2 {p q : P2} {a b c : Ex} : (Ex.cmp2 p q a b c).ev cf cs m = (a.ev cf cs m).bind fun x => i3 x.1.m.int? fun i => (b.ev cf cs x.2).bind fun y => i3 y.1.m.int? fun j => b3 (cmpI p i j) ((c.ev cf cs y.2).bind fun z => i3 z.1.m.int? fun k => (n3 (cmpI q j k)).bind fun b => Res.ok (.o (.d (.bool b)), z.2)) (.ok (.o (.d (.bool false)), y.2)) := by
  show cmp2F p q (a.ev cf cs) (b.ev cf cs) (c.ev cf cs) m = _
  unfold cmp2F
  rw [intB_eq]
  cases a.ev cf cs m with
  | ok x =>
    obtain ⟨r, m1⟩ := x
    simp only [Res.bind_ok]
    cases r.m.int? with
    | none => rfl
    | some i =>
      simp only [i3_some]
      rw [intB_eq]
      cases b.ev cf cs m1 with
      | ok x =>
        obtain ⟨r, m1⟩ := x
        simp only [Res.bind_ok]
        cases r.m.int? with
        | none => rfl
        | some j =>
          simp only [i3_some]
          rcases cmpI p i j with _ | _ | _
          · rfl
          · rfl
          · simp only [b3_some, if_true]
            rw [intB_eq]
            cases c.ev cf cs m1 with
            | ok x =>
              obtain ⟨r, m1⟩ := x
              simp only [Res.bind_ok]
              cases r.m.int? with
              | none => rfl
              | some k =>
                simp only [i3_some]
                rcases cmpI q j k with _ | _ | _ <;> rfl
            | er c x => rfl
            | bad => rfl
      | er c x => rfl
      | bad => rfl
  | er c x => rfl
  | bad => rfl
@[simp] theorem cmpI_le {i j : Int} : cmpI .le i j = some (decide (i ≤ j)) := rfl
@[simp] theorem cmpI_lt {i j : Int} : cmpI .lt i j = some (decide (i < j)) := rfl
theorem ev_call {f : Str} {es : Ars} : (Ex.call f es).ev cf cs m = (es.eva cf cs m).bind fun x => callWith cf f x.1 x.2 := rfl
@[simp] theorem evs_nil : Exs.nil.evs cf cs m = .ok ([], m) := rfl
@[simp] theorem evs_cons {e : Ex} {es : Exs} : (Exs.cons e es).evs cf cs m = (e.ev cf cs m).bind fun x => (es.evs cf cs x.2).bind fun y => if (x.1.isB && !es.pu) = true then Res.bad else .ok (x.1 :: y.1, y.2) := rfl
@[simp] theorem eva_nil : Ars.nil.eva cf cs m = .ok ([], m) := rfl
@[simp] theorem eva_r {e : Ex} {es : Ars} : (Ars.r e es).eva cf cs m = (e.ev cf cs m).bind fun x => (es.eva cf cs x.2).bind fun y => if (x.1.isB && !es.pu) = true then Res.bad else .ok (.r x.1 :: y.1, y.2) := rfl
@[simp] theorem eva_w {i : Nat} {es : Ars} : (Ars.w i es).eva cf cs m = vr m[i]? fun _ => (es.eva cf cs m).bind fun y => Res.ok (.w i :: y.1, y.2) := by
  show (match m[i]? with
    | some (some _) => (es.eva cf cs m).bind fun (as, m2) => Res.ok (Arg.w i :: as, m2)
    | _ => Res.bad) = _
  rcases m[i]? with _ | _ | k <;> rfl
/-! calls, by the kinds of operands -/
@[simp] theorem cw_d {f : Str} {d : D} : callWith cf f [.r (.o (.d d))] m = (cf f [.d d]).bind fun x => match x.2, x.1 with
    | [_], .o k => Res.ok (Rv.o k, m)
    | _, _ => Res.bad := by
  have e : callWith cf f [.r (.o (.d d))] m = (cf f [.d d]).bind fun x => match give [.r (.o (.d d))] x.2 m with
      | none => Res.bad
      | some m2 => match x.1 with
        | .b _ => Res.bad
        | .o k => Res.ok (Rv.o k, m2) := rfl
  rw [e]
  cases cf f [.d d] with
  | ok x =>
    obtain ⟨r, ks⟩ := x
    simp only [Res.bind_ok]
    match ks, r with
    | [], _ => rfl
    | [_], .o k => rfl
    | [_], .b k => rfl
    | _ :: _ :: _, _ => rfl
  | er c x => rfl
  | bad => rfl
/-- what is made at once is handed on frozen -/
@[simp] theorem cw_v {f : Str} {d : List D} : callWith cf f [.r (.o (.v d))] m = (cf f [.d (.list d)]).bind fun x => match x.2, x.1 with
    | [_], .o k => Res.ok (Rv.o k, m)
    | _, _ => Res.bad := by
  have e : callWith cf f [.r (.o (.v d))] m = (cf f [.d (.list d)]).bind fun x => match give [.r (.o (.v d))] x.2 m with
      | none => Res.bad
      | some m2 => match x.1 with
        | .b _ => Res.bad
        | .o k => Res.ok (Rv.o k, m2) := rfl
  rw [e]
  cases cf f [.d (.list d)] with
  | ok x =>
    obtain ⟨r, ks⟩ := x
    simp only [Res.bind_ok]
    match ks, r with
    | [], _ => rfl
    | [_], .o k => rfl
    | [_], .b k => rfl
    | _ :: _ :: _, _ => rfl
  | er c x => rfl
  | bad => rfl
/-- only looked at -/
@[simp] theorem cw_bv {f : Str} {d : List D} : callWith cf f [.r (.b (.v d))] m = (cf f [.d (.list d)]).bind fun x => match x.2, x.1 with
    | [_], .o k => if k.apart = true then Res.ok (Rv.o k, m) else Res.bad
    | _, _ => Res.bad := by
  have e : callWith cf f [.r (.b (.v d))] m = (cf f [.d (.list d)]).bind fun x => match give [.r (.b (.v d))] x.2 m with
      | none => Res.bad
      | some m2 => match x.1 with
        | .b _ => Res.bad
        | .o k => if (true && !k.apart) = true then Res.bad else .ok (.o k, m2) := rfl
  rw [e]
  cases cf f [.d (.list d)] with
  | ok x =>
    obtain ⟨r, ks⟩ := x
    simp only [Res.bind_ok]
    match ks, r with
    | [], _ => rfl
    | [_], .o k =>
      show (if (true && !k.apart) = true then _ else _) = if k.apart = true then _ else _
      cases k.apart <;> rfl
    | [_], .b k => rfl
    | _ :: _ :: _, _ => rfl
  | er c x => rfl
  | bad => rfl
/-- a written list ahead -/
theorem cw_w {f : Str} {i : Nat} {q k q' x : M} {d : D} (hq : m[i]? = some (some q)) (hC : cf f [q, .d d] = .ok (.o k, [q', x])) : callWith cf f [.w i, .r (.o (.d d))] m = .ok (.o k, m.set i (some q')) := by
  have e : callWith cf f [.w i, .r (.o (.d d))] m = match (match m[i]? with
    | some (some k) => some ([k, .d d], m.set i none)
    | _ => none) with
    | none => Res.bad
    | some (ks, m1) => (cf f ks).bind fun (r, ks') => match give [.w i, .r (.o (.d d))] ks' m1 with
      | none => Res.bad
      | some m2 => match r with
        | .b _ => Res.bad
        | .o k => Res.ok (Rv.o k, m2) := by
    unfold callWith
    show (match hand [.w i, .r (.o (.d d))] m with
    | none => Res.bad
    | some (ks, m1) => _) = _
    have : hand [.w i, .r (.o (.d d))] m = (match m[i]? with
    | some (some k) => some ([k, .d d], m.set i none)
    | _ => none) := by
      show (match m[i]? with
    | some (some k) => (some ([M.d d], m.set i none)).map fun (p : List M × Sl) => (k :: p.1, p.2)
    | _ => none) = _
      rcases m[i]? with _ | _ | k <;> rfl
    rw [this]
    rfl
  rw [e, hq]
  show ((cf f [q, .d d]).bind _) = _
  rw [hC]
  show Res.ok (Rv.o k, (m.set i none).set i (some q')) = _
  rw [List.set_set]
/-- a call of one operand -/
theorem call_d {f : Str} {e : Ex} {m1 : Sl} {d : D} {k x : M} (h : e.ev cf cs m = .ok (.o (.d d), m1)) (hC : cf f [.d d] = .ok (.o k, [x])) : (Ex.call f (.r e .nil)).ev cf cs m = .ok (.o k, m1) :=
  V.call (V.as_r h V.as_nil rfl) rfl rfl hC rfl rfl
theorem call_ov {f : Str} {e : Ex} {m1 : Sl} {d : List D} {k x : M} (h : e.ev cf cs m = .ok (.o (.v d), m1)) (hC : cf f [.d (.list d)] = .ok (.o k, [x])) : (Ex.call f (.r e .nil)).ev cf cs m = .ok (.o k, m1) :=
  V.call (V.as_r h V.as_nil rfl) rfl rfl hC rfl rfl
theorem call_bv {f : Str} {e : Ex} {m1 : Sl} {d : List D} {k x : M} (h : e.ev cf cs m = .ok (.b (.v d), m1)) (hC : cf f [.d (.list d)] = .ok (.o k, [x])) (hk : k.apart = true) : (Ex.call f (.r e .nil)).ev cf cs m = .ok (.o k, m1) :=
  V.call (V.as_r h V.as_nil rfl) rfl rfl hC rfl (by rw [hk]; rfl)
/-- .. that writes in a list -/
theorem call_w {f : Str} {e : Ex} {i : Nat} {m1 : Sl} {q q1 q' k x : M} {d : D} (h0 : m[i]? = some (some q)) (h : e.ev cf cs m = .ok (.o (.d d), m1)) (h1 : m1[i]? = some (some q1)) (hC : cf f [q1, .d d] = .ok (.o k, [q', x])) : (Ex.call f (.w i (.r e .nil))).ev cf cs m = .ok (.o k, m1.set i (some q')) := by
  rw [ev_call, eva_w, h0, vr_some, eva_r, h]
  exact cw_w h1 hC
/-! primitives -/
@[simp] theorem f_len : P1.len.f = P.len := rfl
@[simp] theorem f_int : P1.int.f = P.int := rfl
@[simp] theorem f_abs : P1.abs.f = P.abs := rfl
@[simp] theorem f_list : P1.list.f = P.list := rfl
@[simp] theorem f_tuple : P1.tuple.f = P.tuple := rfl
@[simp] theorem f_sorted : P1.sorted.f = P.sorted := rfl
@[simp] theorem f_sum : P1.sum.f = P.sum := rfl
@[simp] theorem f_all : P1.all.f = P.all := rfl
@[simp] theorem f_add : P2.add.f = P.add := rfl
@[simp] theorem f_sub : P2.sub.f = P.sub := rfl
@[simp] theorem f_mul : P2.mul.f = P.mul := rfl
@[simp] theorem f_fdiv : P2.fdiv.f = P.fdiv := rfl
@[simp] theorem f_mod : P2.mod.f = P.mod := rfl
@[simp] theorem f_pow : P2.pow.f = P.pow := rfl
@[simp] theorem f_eq : P2.eq.f = P.eq := rfl
@[simp] theorem f_ne : P2.ne.f = P.ne := rfl
@[simp] theorem f_lt : P2.lt.f = P.lt := rfl
@[simp] theorem f_le : P2.le.f = P.le := rfl
@[simp] theorem f_gt : P2.gt.f = P.gt := rfl
@[simp] theorem f_ge : P2.ge.f = P.ge := rfl
@[simp] theorem f_isnot : P2.isnot.f = P.isnot := rfl
@[simp] theorem f_isp : P2.isp.f = P.isp := rfl
@[simp] theorem f_idx : P2.idx.f = P.idx := rfl
@[simp] theorem q_len_bv {xs : List D} : P.len [.b (.v xs)] = .ok (.o (.d (.int xs.length))) := rfl
@[simp] theorem q_len_ov {xs : List D} : P.len [.o (.v xs)] = .ok (.o (.d (.int xs.length))) := rfl
@[simp] theorem q_len_l {xs : List D} : P.len [.o (.d (.list xs))] = .ok (.o (.d (.int xs.length))) := rfl
@[simp] theorem q_len_t {xs : List D} : P.len [.o (.d (.tuple xs))] = .ok (.o (.d (.int xs.length))) := rfl
@[simp] theorem q_int {i : Int} : P.int [.o (.d (.int i))] = .ok (.o (.d (.int i))) := rfl
@[simp] theorem q_abs {i : Int} : P.abs [.o (.d (.int i))] = .ok (.o (.d (.int (if i < 0 then -i else i)))) := rfl
@[simp] theorem q_neg {i : Int} : P.neg [.o (.d (.int i))] = .ok (.o (.d (.int (-i)))) := rfl
@[simp] theorem q_add {i j : Int} : P.add [.o (.d (.int i)), .o (.d (.int j))] = .ok (.o (.d (.int (i + j)))) := rfl
@[simp] theorem q_sub {i j : Int} : P.sub [.o (.d (.int i)), .o (.d (.int j))] = .ok (.o (.d (.int (i - j)))) := rfl
@[simp] theorem q_eq {i j : Int} : P.eq [.o (.d (.int i)), .o (.d (.int j))] = .ok (.o (.d (.bool (decide (i = j))))) := p_eq_int i j
@[simp] theorem q_ne {i j : Int} : P.ne [.o (.d (.int i)), .o (.d (.int j))] = .ok (.o (.d (.bool (decide (i ≠ j))))) := p_ne_int i j
@[simp] theorem q_lt {i j : Int} : P.lt [.o (.d (.int i)), .o (.d (.int j))] = .ok (.o (.d (.bool (decide (i < j))))) := p_lt_int i j
@[simp] theorem q_le {i j : Int} : P.le [.o (.d (.int i)), .o (.d (.int j))] = .ok (.o (.d (.bool (decide (i ≤ j))))) := p_le_int i j
@[simp] theorem q_gt {i j : Int} : P.gt [.o (.d (.int i)), .o (.d (.int j))] = .ok (.o (.d (.bool (decide (j < i))))) := p_gt_int i j
@[simp] theorem q_ge {i j : Int} : P.ge [.o (.d (.int i)), .o (.d (.int j))] = .ok (.o (.d (.bool (decide (j ≤ i))))) := p_ge_int i j
theorem q_mod {i j : Int} (h : 0 < j) : P.mod [.o (.d (.int i)), .o (.d (.int j))] = .ok (.o (.d (.int (i % j)))) := p_mod_int h
theorem q_fdiv {i j : Int} (h : 0 < j) (h2 : j.natAbs.log2 < 9000) : P.fdiv [.o (.d (.int i)), .o (.d (.int j))] = .ok (.o (.d (.int (i / j)))) := p_fdiv_int h h2
theorem q_mul {i j : Int} (h : i.natAbs.log2 + j.natAbs.log2 < 1000000) : P.mul [.o (.d (.int i)), .o (.d (.int j))] = .ok (.o (.d (.int (i * j)))) := p_mul_int h
def o3 {α β : Type} (o : Option β) (A : β → Res α) : Res α := match o with
  | some i => A i
  | none => Res.bad
@[simp] theorem o3_some {α β : Type} (i : β) (A : β → Res α) : o3 (some i) A = A i := rfl
@[simp] theorem q_idx_bv {xs : List D} {i : Int} : P.idx [.b (.v xs), .o (.d (.int i))] = o3 (atI xs i) fun d => Res.ok (.o (.d d)) := by
  show (match atI xs i with
          | some d => Res.ok (Rv.p d)
          | none => Res.bad) = _
  cases atI xs i <;> rfl
@[simp] theorem q_idx_ov {xs : List D} {i : Int} : P.idx [.o (.v xs), .o (.d (.int i))] = o3 (atI xs i) fun d => Res.ok (.o (.d d)) := by
  show (match atI xs i with
          | some d => Res.ok (Rv.p d)
          | none => Res.bad) = _
  cases atI xs i <;> rfl
@[simp] theorem q_idx_l {xs : List D} {i : Int} : P.idx [.o (.d (.list xs)), .o (.d (.int i))] = o3 (atI xs i) fun d => Res.ok (.o (.d d)) := by
  show (match atI xs i with
          | some d => Res.ok (Rv.p d)
          | none => Res.bad) = _
  cases atI xs i <;> rfl
@[simp] theorem q_idx_t {xs : List D} {i : Int} : P.idx [.o (.d (.tuple xs)), .o (.d (.int i))] = o3 (atI xs i) fun d => Res.ok (.o (.d d)) := by
  show (match atI xs i with
          | some d => Res.ok (Rv.p d)
          | none => Res.bad) = _
  cases atI xs i <;> rfl
@[simp] theorem q_idx_bl {xs : List M} {i : Int} : P.idx [.b (.l xs), .o (.d (.int i))] = o3 (atI xs i) fun d => Res.ok (Rv.b d) := by
  show (match atI xs i with
          | some d => Res.ok (Rv.b d)
          | none => Res.bad) = _
  cases atI xs i <;> rfl
@[simp] theorem q_list_t {xs : List D} : P.list [.o (.d (.tuple xs))] = .ok (.o (.v xs)) := rfl
@[simp] theorem q_list_l {xs : List D} : P.list [.o (.d (.list xs))] = .ok (.o (.v xs)) := rfl
@[simp] theorem q_tuple_bv {xs : List D} : P.tuple [.b (.v xs)] = .ok (.o (.d (.tuple xs))) := rfl
@[simp] theorem q_tuple_ov {xs : List D} : P.tuple [.o (.v xs)] = .ok (.o (.d (.tuple xs))) := rfl
@[simp] theorem q_tuple_l {xs : List D} : P.tuple [.o (.d (.list xs))] = .ok (.o (.d (.tuple xs))) := rfl
@[simp] theorem q_rev_ov {xs : List D} : P.rev [.o (.v xs)] = .ok (.o (.v xs.reverse)) := rfl
@[simp] theorem q_isi {c : String} {d : D} : P.isi [c] (.o (.d d)) = .ok (.o (.d (.bool (P.isTy (P.tyOf d) c)))) := by
  show Res.ok (Rv.p (.bool (P.isTy (P.tyOf d) c || false))) = _
  rw [Bool.or_false]
@[simp] theorem q_isi2 {c e : String} {d : D} : P.isi [c, e] (.o (.d d)) = .ok (.o (.d (.bool (P.isTy (P.tyOf d) c || P.isTy (P.tyOf d) e)))) := by
  show Res.ok (Rv.p (.bool (P.isTy (P.tyOf d) c || (P.isTy (P.tyOf d) e || false)))) = _
  rw [Bool.or_false]
@[simp] theorem q_isi_bv {c : String} {d : List D} : P.isi [c] (.b (.v d)) = .ok (.o (.d (.bool (P.isTy "list" c)))) := by
  show Res.ok (Rv.p (.bool (P.isTy "list" c || false))) = _
  rw [Bool.or_false]
@[simp] theorem q_isi_ov {c : String} {d : List D} : P.isi [c] (.o (.v d)) = .ok (.o (.d (.bool (P.isTy "list" c)))) := by
  show Res.ok (Rv.p (.bool (P.isTy "list" c || false))) = _
  rw [Bool.or_false]
@[simp] theorem ty_int {i : Int} : P.tyOf (.int i) = "int" := rfl
@[simp] theorem ty_list {i : List D} : P.tyOf (.list i) = "list" := rfl
@[simp] theorem ty_tuple {i : List D} : P.tyOf (.tuple i) = "tuple" := rfl
@[simp] theorem t_ii : P.isTy "int" "int" = true := by decide
@[simp] theorem t_ib : P.isTy "int" "bool" = false := by decide
@[simp] theorem t_tt : P.isTy "tuple" "tuple" = true := by decide
@[simp] theorem t_ll : P.isTy "list" "list" = true := by decide
@[simp] theorem t_tl : P.isTy "tuple" "list" = false := by decide
@[simp] theorem t_lt : P.isTy "list" "tuple" = false := by decide
@[simp] theorem t_ti : P.isTy "tuple" "int" = false := by decide
@[simp] theorem q_slice_s {lo hi : Option Int} {xs : List D} : P.slice lo hi (.b (.s xs)) = .ok (.o (.v (P.slc xs lo hi))) := rfl
@[simp] theorem q_slice_t {lo hi : Option Int} {xs : List D} : P.slice lo hi (.o (.d (.tuple xs))) = .ok (.o (.d (.tuple (P.slc xs lo hi)))) := rfl
@[simp] theorem q_slice_l {lo hi : Option Int} {xs : List D} : P.slice lo hi (.o (.d (.list xs))) = .ok (.o (.v (P.slc xs lo hi))) := rfl
@[simp] theorem q_slice_v {lo hi : Option Int} {xs : List D} : P.slice lo hi (.b (.v xs)) = .ok (.o (.v (P.slc xs lo hi))) := rfl
end S
end Oa

/-! Statements of the small language, to be worked out by simp. -/
namespace Oa
open PySem PySem.Spec PyProof.Rows L2
namespace S
variable {cf : CfT} {cs : Str → Option D} {fu : Nat} {m : Sl}
def sq (x : Res Out) (f : Sl → Res Out) : Res Out := match x with
  | .ok (.nx m1) => f m1
  | x => x
@[simp] theorem sq_nx {f : Sl → Res Out} : sq (.ok (.nx m)) f = f m := rfl
@[simp] theorem sq_rt {f : Sl → Res Out} {k : M} : sq (.ok (.rt k m)) f = .ok (.rt k m) := rfl
@[simp] theorem sq_ite {f : Sl → Res Out} {c : Prop} [Decidable c] {a b : Res Out} : sq (if c then a else b) f = if c then sq a f else sq b f := by split <;> rfl
theorem bind_ite {α β : Type} {c : Prop} [Decidable c] {a b : Res α} {f : α → Res β} : (if c then a else b).bind f = if c then a.bind f else b.bind f := by split <;> rfl
@[simp] theorem runs_nil : Sts.nil.runs cf cs fu m = .ok (.nx m) := rfl
@[simp] theorem runs_cons {s : St} {r : Sts} : (Sts.cons s r).runs cf cs fu m = sq (s.run cf cs fu m) (fun m1 => r.runs cf cs fu m1) := by
  show (match s.run cf cs fu m with
  | .ok (.nx m1) => r.runs cf cs fu m1
  | x => x) = _
  rcases s.run cf cs fu m with o | _ | _
  · cases o <;> rfl
  · rfl
  · rfl
@[simp] theorem run_set {i : Nat} {e : Ex} : (St.set i e).run cf cs fu m = (e.ev cf cs m).bind fun x => o3 (ownM x.1) fun k => o3 (putS i k x.2) fun m2 => Res.ok (.nx m2) := by
  show ((e.ev cf cs m).bind _) = _
  cases e.ev cf cs m with
  | ok x =>
    obtain ⟨r, m1⟩ := x
    simp only [Res.bind_ok]
    cases ownM r with
    | none => rfl
    | some k =>
      show outN (putS i k m1) = o3 (putS i k m1) _
      cases putS i k m1 <;> rfl
  | er c x => rfl
  | bad => rfl
@[simp] theorem putS_eq {i : Nat} {k : M} : putS i k m = if i < m.length then some (m.set i (some k)) else none := rfl
@[simp] theorem run_ret {e : Ex} : (St.ret e).run cf cs fu m = (e.ev cf cs m).bind fun x => o3 (ownM x.1) fun k => Res.ok (.rt k x.2) := by
  show ((e.ev cf cs m).bind _) = _
  cases e.ev cf cs m with
  | ok x =>
    obtain ⟨r, m1⟩ := x
    simp only [Res.bind_ok]
    cases ownM r <;> rfl
  | er c x => rfl
  | bad => rfl
theorem cond_eq (fc : EvF) (m : Sl) : condF fc m = (fc m).bind fun x => (n3 x.1.m.bl?).bind fun b => Res.ok (b, x.2) := by
  unfold condF
  cases fc m with
  | ok x =>
    obtain ⟨r, m1⟩ := x
    simp only [Res.bind_ok]
    rcases r.m.bl? with _ | _ <;> rfl
  | er c x => rfl
  | bad => rfl
@[simp] theorem run_ite {c : Ex} {a b : Sts} : (St.ite c a b).run cf cs fu m = (c.ev cf cs m).bind fun x => b3 x.1.m.bl? (a.runs cf cs fu x.2) (b.runs cf cs fu x.2) := by
  show ((condF (c.ev cf cs) m).bind fun (t, m1) => if t = true then a.runs cf cs fu m1 else b.runs cf cs fu m1) = _
  rw [cond_eq]
  cases c.ev cf cs m with
  | ok x =>
    obtain ⟨r, m1⟩ := x
    simp only [Res.bind_ok]
    rcases r.m.bl? with _ | _ | _ <;> rfl
  | er c x => rfl
  | bad => rfl
@[simp] theorem run_setI {i : Nat} {a e : Ex} : (St.setI i a e).run cf cs fu m = (e.ev cf cs m).bind fun x => vr x.2[i]? fun _ => (a.ev cf cs x.2).bind fun y => if (x.1.isB && !a.pu) = true then Res.bad else i3 y.1.m.int? fun j => vr y.2[i]? fun k => o3 (setTo k j x.1) fun k' => Res.ok (.nx (y.2.set i (some k'))) := by
  show setIF i a.pu (e.ev cf cs) (a.ev cf cs) m = _
  unfold setIF arR
  cases e.ev cf cs m with
  | ok x =>
    obtain ⟨r, m1⟩ := x
    simp only [Res.bind_ok]
    unfold arW
    rcases m1[i]? with _ | _ | k
    · rfl
    · rfl
    · simp only [vr_some]
      cases a.ev cf cs m1 with
      | ok x =>
        obtain ⟨q, m2⟩ := x
        simp only [Res.bind_ok, arNil, Bool.not_true, Bool.and_false, Bool.false_eq_true, if_false]
        by_cases hb : (r.isB && !a.pu) = true
        · rw [if_pos hb, if_pos hb]
          rfl
        · rw [if_neg hb, if_neg hb]
          simp only [Res.bind_ok]
          cases q.m.int? with
          | none => rfl
          | some j =>
            simp only [i3_some]
            rcases m2[i]? with _ | _ | k
            · rfl
            · rfl
            · simp only [vr_some]
              cases setTo k j r <;> rfl
      | er c x => rfl
      | bad => rfl
  | er c x => rfl
  | bad => rfl
@[simp] theorem run_whl {c : Ex} {b : Sts} : (St.whl c b).run cf cs fu m = whlF (condF (c.ev cf cs)) (b.runs cf cs fu) fu m := rfl
@[simp] theorem run_forS {t : Tg} {it : Itx} {b : Sts} : (St.forS t it b).run cf cs fu m = (it.evi cf cs b.pu m).bind fun x => forF t (b.runs cf cs fu) x.1 x.2 := rfl
@[simp] theorem pus_set {i : Nat} {e : Ex} : (St.set i e).pu = e.pu := rfl
@[simp] theorem pus_ret {e : Ex} : (St.ret e).pu = e.pu := rfl
@[simp] theorem pus_aug {i : Nat} {p : P2} {e : Ex} : (St.aug i p e).pu = e.pu := rfl
@[simp] theorem pus_app {i : Nat} {e : Ex} : (St.app i e).pu = false := rfl
@[simp] theorem pus_ext {i : Nat} {e : Ex} : (St.ext i e).pu = false := rfl
@[simp] theorem pus_appX {i : Nat} {a e : Ex} : (St.appX i a e).pu = false := rfl
@[simp] theorem pus_setI {i : Nat} {a e : Ex} : (St.setI i a e).pu = false := rfl
@[simp] theorem pus_ite {c : Ex} {a b : Sts} : (St.ite c a b).pu = (c.pu && (a.pu && b.pu)) := rfl
@[simp] theorem pus_whl {c : Ex} {b : Sts} : (St.whl c b).pu = (c.pu && b.pu) := rfl
@[simp] theorem pus_for {t : Tg} {it : Itx} {b : Sts} : (St.forS t it b).pu = (it.pu && b.pu) := rfl
@[simp] theorem pus_never : St.never.pu = true := rfl
@[simp] theorem puss_nil : Sts.nil.pu = true := rfl
@[simp] theorem puss_cons {s : St} {r : Sts} : (Sts.cons s r).pu = (s.pu && r.pu) := rfl
theorem up_eq {i : Nat} {g : M → Rv → Option M} {fe : EvF} : dropF (upF i g fe) m = vr m[i]? fun k0 => if k0.isLst = true then (fe m).bind fun x => vr x.2[i]? fun k => o3 (g k x.1) fun k' => Res.ok (.nx (x.2.set i (some k'))) else Res.bad := by
  unfold dropF upF atF
  rcases m[i]? with _ | _ | k
  · rfl
  · rfl
  · simp only [vr_some]
    split
    · unfold upG
      cases fe m with
      | ok x =>
        obtain ⟨r, m1⟩ := x
        simp only [Res.bind_ok]
        rcases m1[i]? with _ | _ | k
        · rfl
        · rfl
        · simp only [vr_some]
          cases g k r <;> rfl
      | er c x => rfl
      | bad => rfl
    · rfl
@[simp] theorem run_app {i : Nat} {e : Ex} : (St.app i e).run cf cs fu m = vr m[i]? fun k0 => if k0.isLst = true then (e.ev cf cs m).bind fun x => vr x.2[i]? fun k => o3 (addTo k x.1) fun k' => Res.ok (.nx (x.2.set i (some k'))) else Res.bad := up_eq
@[simp] theorem run_ext {i : Nat} {e : Ex} : (St.ext i e).run cf cs fu m = vr m[i]? fun k0 => if k0.isLst = true then (e.ev cf cs m).bind fun x => vr x.2[i]? fun k => o3 (extTo k x.1) fun k' => Res.ok (.nx (x.2.set i (some k'))) else Res.bad := up_eq
/-- an int is added -/
theorem run_aug {i : Nat} {p : P2} {e : Ex} {m m1 : Sl} {a b c : Int} (h0 : m[i]? = some (some (.d (.int a)))) (h : e.ev cf cs m = .ok (.o (.d (.int b)), m1)) (hp : augI p a b = some c) (hl : i < m1.length) : (St.aug i p e).run cf cs fu m = .ok (.nx (m1.set i (some (.d (.int c))))) :=
  V.aug h0 h hp (by rw [putS_eq, if_pos hl])
/-! sources -/
theorem src1_eq (g : List Rv → Res (List D)) (fa : EvF) (m : Sl) : evSrc g (evsCons true fa evsNil) m = (fa m).bind fun x => (g [x.1]).bind fun ds => Res.ok (ds, x.2) := by
  unfold evSrc evsCons
  cases fa m with
  | ok x =>
    obtain ⟨r, m1⟩ := x
    simp only [Res.bind_ok, evsNil, Bool.not_true, Bool.and_false, Bool.false_eq_true, if_false]
  | er c x => rfl
  | bad => rfl
theorem src2_eq (g : List Rv → Res (List D)) (pb : Bool) (fa fb : EvF) (m : Sl) : evSrc g (evsCons pb fa (evsCons true fb evsNil)) m = (fa m).bind fun x => (fb x.2).bind fun y => if (x.1.isB && !pb) = true then Res.bad else (g [x.1, y.1]).bind fun ds => Res.ok (ds, y.2) := by
  unfold evSrc evsCons
  cases fa m with
  | ok x =>
    obtain ⟨r, m1⟩ := x
    simp only [Res.bind_ok]
    cases fb m1 with
    | ok y =>
      obtain ⟨q, m2⟩ := y
      simp only [Res.bind_ok, evsNil, Bool.not_true, Bool.and_false, Bool.false_eq_true, if_false]
      split <;> rfl
    | er c x => rfl
    | bad => rfl
  | er c x => rfl
  | bad => rfl
@[simp] theorem evi_ex {e : Ex} {pe : Bool} : (Itx.ex e).evi cf cs pe m = (e.ev cf cs m).bind fun x => (gSeq pe [x.1]).bind fun ds => Res.ok (ds, x.2) := src1_eq _ _ _
theorem evi_rng1 {e : Ex} {pe : Bool} : (Itx.rng1 e).evi cf cs pe m = (e.ev cf cs m).bind fun x => (gRng1 [x.1]).bind fun ds => Res.ok (ds, x.2) := src1_eq _ _ _
@[simp] theorem evi_enu {e : Ex} {pe : Bool} : (Itx.enu e).evi cf cs pe m = (e.ev cf cs m).bind fun x => (gEnu pe [x.1]).bind fun ds => Res.ok (ds, x.2) := src1_eq _ _ _
theorem evi_rng2 {a b : Ex} {pe : Bool} : (Itx.rng2 a b).evi cf cs pe m = (a.ev cf cs m).bind fun x => (b.ev cf cs x.2).bind fun y => if (x.1.isB && !b.pu) = true then Res.bad else (gRng2 [x.1, y.1]).bind fun ds => Res.ok (ds, y.2) := src2_eq _ _ _ _ _
theorem evi_rngD {a b : Ex} {pe : Bool} : (Itx.rngD a b).evi cf cs pe m = (a.ev cf cs m).bind fun x => (b.ev cf cs x.2).bind fun y => if (x.1.isB && !b.pu) = true then Res.bad else (gRngD [x.1, y.1]).bind fun ds => Res.ok (ds, y.2) := src2_eq _ _ _ _ _
@[simp] theorem evi_zip {a b : Ex} {pe : Bool} : (Itx.zip a b).evi cf cs pe m = (a.ev cf cs m).bind fun x => (b.ev cf cs x.2).bind fun y => if (x.1.isB && !b.pu) = true then Res.bad else (gZip pe [x.1, y.1]).bind fun ds => Res.ok (ds, y.2) := src2_eq _ _ _ _ _
@[simp] theorem src_ov {pe : Bool} {xs : List D} : srcF pe (.o (.v xs)) = .ok (false, xs) := rfl
@[simp] theorem src_ol {pe : Bool} {xs : List D} : srcF pe (.o (.d (.list xs))) = .ok (false, xs) := rfl
@[simp] theorem src_ot {pe : Bool} {xs : List D} : srcF pe (.o (.d (.tuple xs))) = .ok (true, xs) := rfl
@[simp] theorem src_bv {xs : List D} : srcF true (.b (.v xs)) = .ok (false, xs) := rfl
@[simp] theorem dctF_ov {pe : Bool} {xs : List D} : dctF pe (.o (.v xs)) = none := rfl
@[simp] theorem dctF_bv {pe : Bool} {xs : List D} : dctF pe (.b (.v xs)) = none := rfl
theorem dctF_ol {pe : Bool} {ms : List M} : dctF pe (.o (.l ms)) = none := by
  unfold dctF
  simp only [M.data]
  split <;> rfl
@[simp] theorem dctF_bl {pe : Bool} {xs : List M} : dctF pe (.b (.l xs)) = none := rfl
@[simp] theorem dctF_bs {pe : Bool} {xs : List D} : dctF pe (.b (.s xs)) = none := rfl
@[simp] theorem dctF_os {pe : Bool} {xs : List D} : dctF pe (.o (.s xs)) = none := rfl
@[simp] theorem dctF_bt {pe : Bool} {xs : List D} : dctF pe (.b (.t xs)) = none := rfl
@[simp] theorem dctF_ot {pe : Bool} {xs : List D} : dctF pe (.o (.t xs)) = none := rfl
@[simp] theorem dctF_bd {pe : Bool} {x : D} : dctF pe (.b (.d x)) = none := rfl
@[simp] theorem dctF_list {pe : Bool} {xs : List D} : dctF pe (.o (.d (.list xs))) = none := rfl
@[simp] theorem dctF_tup {pe : Bool} {xs : List D} : dctF pe (.o (.d (.tuple xs))) = none := rfl
theorem g_seq {pe : Bool} {r : Rv} (h : dctF pe r = none) : gSeq pe [r] = (srcF pe r).bind fun p => .ok p.2 := by
  unfold gSeq
  simp only [h]
@[simp] theorem g_seq_ov {pe : Bool} {xs : List D} : gSeq pe [.o (.v xs)] = .ok xs := rfl
@[simp] theorem g_seq_ol {pe : Bool} {xs : List D} : gSeq pe [.o (.d (.list xs))] = .ok xs := rfl
@[simp] theorem g_seq_ot {pe : Bool} {xs : List D} : gSeq pe [.o (.d (.tuple xs))] = .ok xs := rfl
@[simp] theorem g_seq_bv {xs : List D} : gSeq true [.b (.v xs)] = .ok xs := rfl
@[simp] theorem g_seq_dct {pe : Bool} {xs : List (D × D)} : gSeq pe [.o (.d (.dict xs))] = .ok (xs.map (·.1)) := rfl
@[simp] theorem g_seq_bm {xs : List (D × D)} : gSeq true [.b (.m xs)] = .ok (xs.map (·.1)) := rfl
@[simp] theorem g_enu {pe : Bool} {r : Rv} : gEnu pe [r] = (srcF pe r).bind fun p => Res.ok (p.2.zipIdx.map fun p => .tuple [.int (p.2 : Nat), p.1]) := rfl
theorem g_rng1 {j : Int} (h : -1000000 ≤ j) (h2 : j < 1000000000) : gRng1 [.o (.d (.int j))] = .ok (rngList 0 j) := by
  show (if rng62 j = true then _ else _) = _
  rw [if_pos]
  unfold rng62
  simp only [Bool.and_eq_true, decide_eq_true_eq]
  omega
theorem g_rng2 {i j : Int} (h : -1000000 ≤ j) (h2 : j < 1000000000) (h3 : -1000000 ≤ i) (h4 : i < 1000000000) : gRng2 [.o (.d (.int i)), .o (.d (.int j))] = .ok (rngList i j) := by
  show (if (rng62 i && rng62 j) = true then _ else _) = _
  rw [if_pos]
  unfold rng62
  simp only [Bool.and_eq_true, decide_eq_true_eq]
  omega
theorem g_rngD {i j : Int} (h : -1000000 ≤ j) (h2 : j < 1000000000) (h3 : -1000000 ≤ i) (h4 : i < 1000000000) : gRngD [.o (.d (.int i)), .o (.d (.int j))] = .ok ((List.range (i - j).toNat).map fun n => .int (i - (n : Nat))) := by
  show (if (rng62 i && rng62 j) = true then _ else _) = _
  rw [if_pos]
  unfold rng62
  simp only [Bool.and_eq_true, decide_eq_true_eq]
  omega
theorem src1_of (g : List Rv → Res (List D)) {fa : EvF} {m m1 : Sl} {r : Rv} {ds : List D} (h : fa m = .ok (r, m1)) (hg : g [r] = .ok ds) : evSrc g (evsCons true fa evsNil) m = .ok (ds, m1) := by
  rw [src1_eq, h]
  simp only [Res.bind_ok, hg]
theorem src2_of (g : List Rv → Res (List D)) {pb : Bool} {fa fb : EvF} {m m1 m2 : Sl} {r q : Rv} {ds : List D} (h : fa m = .ok (r, m1)) (h2 : fb m1 = .ok (q, m2)) (hB : r.isB = false) (hg : g [r, q] = .ok ds) : evSrc g (evsCons pb fa (evsCons true fb evsNil)) m = .ok (ds, m2) := by
  rw [src2_eq, h]
  simp only [Res.bind_ok, h2, hB, Bool.false_and, Bool.false_eq_true, if_false, hg]
theorem rng1_of {e : Ex} {pe : Bool} {m m1 : Sl} {j : Int} (h : e.ev cf cs m = .ok (.o (.d (.int j)), m1)) (h1 : -1000000 ≤ j) (h2 : j < 1000000000) : (Itx.rng1 e).evi cf cs pe m = .ok (rngList 0 j, m1) := src1_of gRng1 h (g_rng1 h1 h2)
theorem rng2_of {a b : Ex} {pe : Bool} {m m1 m2 : Sl} {i j : Int} (h : a.ev cf cs m = .ok (.o (.d (.int i)), m1)) (g : b.ev cf cs m1 = .ok (.o (.d (.int j)), m2)) (h1 : -1000000 ≤ j) (h2 : j < 1000000000) (h3 : -1000000 ≤ i) (h4 : i < 1000000000) : (Itx.rng2 a b).evi cf cs pe m = .ok (rngList i j, m2) := src2_of gRng2 h g rfl (g_rng2 h1 h2 h3 h4)
theorem rngD_of {a b : Ex} {pe : Bool} {m m1 m2 : Sl} {i j : Int} (h : a.ev cf cs m = .ok (.o (.d (.int i)), m1)) (g : b.ev cf cs m1 = .ok (.o (.d (.int j)), m2)) (h1 : -1000000 ≤ j) (h2 : j < 1000000000) (h3 : -1000000 ≤ i) (h4 : i < 1000000000) : (Itx.rngD a b).evi cf cs pe m = .ok ((List.range (i - j).toNat).map (fun n => .int (i - (n : Nat))), m2) := src2_of gRngD h g rfl (g_rngD h1 h2 h3 h4)
end S
namespace V
theorem for_cons {t : Tg} {body : StF} {d : D} {ds : List D} {m m1 m2 : Sl} {z : Res Out} (h1 : t.put d m = some m1) (h2 : body m1 = .ok (.nx m2)) (h3 : forF t body ds m2 = z) : forF t body (d :: ds) m = z := by
  unfold forF
  simp only [h1, h2]
  exact h3
theorem for_nil {t : Tg} {body : StF} {m : Sl} : forF t body [] m = .ok (.nx m) := rfl
end V
def Sts.hd : Sts → St
  | .cons s _ => s
  | .nil => .pas
def Sts.tl : Sts → Sts
  | .cons _ r => r
  | .nil => .nil
def Sts.forB : St → Sts
  | .forS _ _ b => b
  | .whl _ b => b
  | _ => .nil
end Oa

/-! The hand, a draw. -/
namespace Oa
open PySem PySem.Spec PyProof.Rows L2
section
variable {cf : CfT} {cs : Str → Option D} {fu : Nat}
abbrev hd (xs : List Int) (i : Nat) (j k l : Int) : M := .v [.list (xs.map .int), .int i, .int j, .int k, .int l]
def HandOk (n : Nat) (h : M) : Prop := ∃ xs i j k l, h = hd xs i j k l ∧ i ≤ xs.length ∧ (∀ x ∈ xs, 0 ≤ x) ∧ 0 ≤ j ∧ 0 ≤ k ∧ k < 2147483648 ∧ 0 ≤ l ∧ l + (n : Int) ≤ 1099511627776
theorem HandOk.mono {n k : Nat} {h : M} (H : HandOk n h) (hk : k ≤ n) : HandOk k h := by
  obtain ⟨xs, i, j, k, l, rfl, h1, h2, h3, h4, h5, h6, h7⟩ := H
  exact ⟨xs, i, j, k, l, rfl, h1, h2, h3, h4, h5, h6, by omega⟩
@[simp] theorem at5_0 {a b c d e : D} : atI [a, b, c, d, e] 0 = some a := rfl
@[simp] theorem at5_1 {a b c d e : D} : atI [a, b, c, d, e] 1 = some b := rfl
@[simp] theorem at5_2 {a b c d e : D} : atI [a, b, c, d, e] 2 = some c := rfl
@[simp] theorem at5_3 {a b c d e : D} : atI [a, b, c, d, e] 3 = some d := rfl
@[simp] theorem at5_4 {a b c d e : D} : atI [a, b, c, d, e] 4 = some e := rfl
@[simp] theorem st5_1 {a b c d e x : D} : setTo (.v [a, b, c, d, e]) 1 (.o (.d x)) = some (.v [a, x, c, d, e]) := rfl
@[simp] theorem st5_2 {a b c d e x : D} : setTo (.v [a, b, c, d, e]) 2 (.o (.d x)) = some (.v [a, b, x, d, e]) := rfl
@[simp] theorem st5_3 {a b c d e x : D} : setTo (.v [a, b, c, d, e]) 3 (.o (.d x)) = some (.v [a, b, c, x, e]) := rfl
@[simp] theorem st5_4 {a b c d e x : D} : setTo (.v [a, b, c, d, e]) 4 (.o (.d x)) = some (.v [a, b, c, d, x]) := rfl
theorem log_lt {i : Int} (h0 : -1267650600228229401496703205376 < i) (h : i < 1267650600228229401496703205376) : i.natAbs.log2 < 101 := by
  by_cases hz : i.natAbs = 0
  · rw [hz]
    decide
  · rw [Nat.log2_lt hz]
    have : (2:Nat)^101 = 2535301200456458802993406410752 := by decide
    omega
theorem q_mulS {i j : Int} (h0 : -1267650600228229401496703205376 < i) (h : i < 1267650600228229401496703205376) (g0 : -1267650600228229401496703205376 < j) (g : j < 1267650600228229401496703205376) : P.mul [.o (.d (.int i)), .o (.d (.int j))] = .ok (.o (.d (.int (i * j)))) := by
  have := log_lt h0 h
  have := log_lt g0 g
  exact S.q_mul (by omega)
theorem q_fdivS {i j : Int} (g0 : 0 < j) (g : j < 1267650600228229401496703205376) : P.fdiv [.o (.d (.int i)), .o (.d (.int j))] = .ok (.o (.d (.int (i / j)))) := by
  have := log_lt (by omega) g
  exact S.q_fdiv g0 (by omega)
theorem q_pow18 : P.pow [.o (.d (.int 10)), .o (.d (.int 18))] = .ok (.o (.d (.int 1000000000000000000))) := rfl
theorem at_map {xs : List Int} {n : Nat} (h : n < xs.length) : atI (xs.map (PyData.int)) (n : Int) = some (.int xs[n]) := by
  rw [at_nat (by rw [List.length_map]; exact h), List.getElem_map]
/-- what comes behind the first statement -/
theorem draw2 {many : Int} (hm : 0 < many) (hm2 : many < 1000000000) {n : Nat} {h : M} (H : HandOk (n + 1) h) (c : Option M) : ∃ r h' m', f__law_draw.body.tl.runs cf cs fu [some h, some (.d (.int many)), c, none, none] = .ok (.rt (.d (.int r)) (some h' :: some (.d (.int many)) :: m')) ∧ 0 ≤ r ∧ r < many ∧ HandOk n h' := by
  obtain ⟨xs, i, j, k, l, rfl, h1, h2, h3, h4, h5, h6, h7⟩ := H
  by_cases hj : 0 < j
  · refine ⟨j % many, hd xs i (j / many) k l, [c, none, none], ?_, Int.emod_nonneg _ (by omega), Int.emod_lt_of_pos _ hm, xs, i, _, k, l, rfl, h1, h2, Int.ediv_nonneg h3 (by omega), h4, h5, h6, by omega⟩
    simp [Sts.tl, f__law_draw, hj, S.q_mod hm, q_fdivS hm (by omega : many < 1267650600228229401496703205376)]
  · obtain ⟨n1, e1⟩ : ∃ n1, n1 = (k + 7919 * (l + 1)) * 48271 % 2147483647 := ⟨_, rfl⟩
    obtain ⟨n2, e2⟩ : ∃ n2, n2 = n1 * (n1 / 1009 + 69621) % 2147483647 := ⟨_, rfl⟩
    obtain ⟨n3, e3⟩ : ∃ n3, n3 = n2 * (n2 / 2003 + 40692) % 2147483399 := ⟨_, rfl⟩
    have a1 : 0 ≤ n1 ∧ n1 < 2147483647 := e1 ▸ ⟨Int.emod_nonneg _ (by omega), Int.emod_lt_of_pos _ (by omega)⟩
    have a2 : 0 ≤ n2 ∧ n2 < 2147483647 := e2 ▸ ⟨Int.emod_nonneg _ (by omega), Int.emod_lt_of_pos _ (by omega)⟩
    have a3 : 0 ≤ n3 ∧ n3 < 2147483399 := e3 ▸ ⟨Int.emod_nonneg _ (by omega), Int.emod_lt_of_pos _ (by omega)⟩
    have b1 := q_mulS (i := 7919) (j := l + 1) (by omega) (by omega) (by omega) (by omega)
    have b2 := q_mulS (i := k + 7919 * (l + 1)) (j := 48271) (by omega) (by omega) (by omega) (by omega)
    have b3 := q_mulS (i := n1) (j := n1 / 1009 + 69621) (by omega) (by omega) (by omega) (by omega)
    have b4 := q_mulS (i := n2) (j := n2 / 2003 + 40692) (by omega) (by omega) (by omega) (by omega)
    have b5 := S.q_mod (i := n3 / 16) hm
    have c1 := S.q_mod (i := (k + 7919 * (l + 1)) * 48271) (j := 2147483647) (by omega)
    have c2 := S.q_mod (i := n1 * (n1 / 1009 + 69621)) (j := 2147483647) (by omega)
    have c3 := S.q_mod (i := n2 * (n2 / 2003 + 40692)) (j := 2147483399) (by omega)
    have d1 := q_fdivS (i := n1) (j := 1009) (by omega) (by omega)
    have d2 := q_fdivS (i := n2) (j := 2003) (by omega) (by omega)
    have d3 := q_fdivS (i := n3) (j := 16) (by omega) (by omega)
    rw [← e1] at c1
    rw [← e2] at c2
    rw [← e3] at c3
    refine ⟨n3 / 16 % many, hd xs i j k (l + 1), [c, none, some (.d (.int n3))], ?_, Int.emod_nonneg _ (by omega : many ≠ 0), Int.emod_lt_of_pos _ hm, xs, i, j, k, l + 1, rfl, h1, h2, h3, h4, h5, by omega, by omega⟩
    simp [Sts.tl, f__law_draw, hj, b1, b2, b3, b4, b5, c1, c2, c3, d1, d2, d3]
/-- a draw -/
theorem draw_ok {many : Int} {n : Nat} {h : M} (H : HandOk (n + 1) h) (hm : 0 < many) (hm2 : many < 1000000000) : ∃ r h', fnF cf cs fu f__law_draw [h, .d (.int many)] = .ok (.o (.d (.int r)), [h', .d (.int many)]) ∧ 0 ≤ r ∧ r < many ∧ HandOk n h' := by
  have A : ∃ h1 c, f__law_draw.body.hd.run cf cs fu [some h, some (.d (.int many)), none, none, none] = .ok (.nx [some h1, some (.d (.int many)), c, none, none]) ∧ HandOk (n + 1) h1 := by
    obtain ⟨xs, i, j, k, l, rfl, h1, h2, h3, h4, h5, h6, h7⟩ := H
    by_cases hj : j = 0
    · subst hj
      by_cases hi : i < xs.length
      · have hx := h2 _ (List.getElem_mem hi)
        obtain ⟨x, ex⟩ : ∃ x, x = xs[i] := ⟨_, rfl⟩
        rw [← ex] at hx
        have b1 := q_mulS (i := k) (j := 69621) (by omega) (by omega) (by omega) (by omega)
        have c1 := S.q_mod (i := k * 69621 + x + 11) (j := 2147483629) (by omega)
        have k0 := Int.emod_nonneg (k * 69621 + x + 11) (by omega : (2147483629 : Int) ≠ 0)
        have k1 := Int.emod_lt_of_pos (k * 69621 + x + 11) (by omega : (0 : Int) < 2147483629)
        have at1 : atI (xs.map PyData.int) (i : Int) = some (.int x) := by rw [at_map hi, ex]
        have hi2 : (i : Int) < (xs.length : Nat) := by omega
        by_cases hb : 1000000000000000000 ≤ x
        · refine ⟨hd xs (i + 1) x ((k * 69621 + x + 11) % 2147483629) l, some (.d (.int x)), ?_, xs, i + 1, x, _, l, rfl, hi, h2, hx, k0, by omega, h6, h7⟩
          simp [Sts.hd, f__law_draw, hi, at1, b1, c1, q_pow18, hb]
        · refine ⟨hd xs (i + 1) 0 ((k * 69621 + x + 11) % 2147483629) l, some (.d (.int x)), ?_, xs, i + 1, 0, _, l, rfl, hi, h2, by omega, k0, by omega, h6, h7⟩
          simp [Sts.hd, f__law_draw, hi, at1, b1, c1, q_pow18, hb]
      · refine ⟨hd xs i 0 k l, none, ?_, xs, i, 0, k, l, rfl, h1, h2, by omega, h4, h5, h6, h7⟩
        simp [Sts.hd, f__law_draw, hi]
    · refine ⟨hd xs i j k l, none, ?_, xs, i, j, k, l, rfl, h1, h2, h3, h4, h5, h6, h7⟩
      simp [Sts.hd, f__law_draw, hj]
  obtain ⟨h1, c, e, H1⟩ := A
  obtain ⟨r, h', m', e2, r0, r1, H2⟩ := draw2 (cf := cf) (cs := cs) (fu := fu) hm hm2 H1 c
  exact ⟨r, h', V.def_rt (V.seq_nx e e2) rfl, r0, r1, H2⟩
end
end Oa

/-! Rows of ints as data. -/
namespace Oa
open PySem PySem.Spec PyProof.Rows L2
def enc (t : Tr) : D := .tuple (t.map .int)
@[simp] theorem g_seq_enc {pe : Bool} {t : Tr} : gSeq pe [.o (.d (enc t))] = .ok (t.map .int) := rfl
theorem plain_ints : ∀ t : Tr, PyData.plainAll (t.map .int) = true
  | [] => rfl
  | x :: t => by
    rw [List.map_cons, PyData.plainAll, plain_ints t]
    rfl
theorem enc_plain (t : Tr) : (enc t).plain = true := by
  unfold enc
  rw [PyData.plain, plain_ints]
theorem enc_depth (t : Tr) : (enc t).depth ≤ 60 := by
  unfold enc
  rw [PyData.depth, PySem.W.depth_ints]
  omega
theorem enc_alike (a b : Tr) : PySem.W.alike (enc a) (enc b) = true := by
  unfold enc
  rw [PySem.W.alike, PySem.W.alike_ints]
theorem enc_lt (a b : Tr) : PySem.W.dataLt (enc a) (enc b) = decide (a < b) := by
  unfold enc
  rw [PySem.W.dataLt_tuple]
  exact PySem.W.dataLt_ints a b
theorem enc_eqv (a : Tr) : PyData.eqv (enc a) (enc a) = true := PySem.SeqAt.eqv_refl_plain _ (enc_plain a)
theorem encs_plain : ∀ ts : List Tr, PyData.plainAll (ts.map enc) = true
  | [] => rfl
  | t :: ts => by
    rw [List.map_cons, PyData.plainAll, enc_plain, encs_plain ts]
    rfl
theorem encs_eqv (ts : List Tr) : PyData.eqv (.list (ts.map enc)) (.list (ts.map enc)) = true := PySem.SeqAt.eqv_refl_plain _ (by rw [PyData.plain, encs_plain])
theorem encs_depthAll : ∀ ts : List Tr, PyData.depthAll (ts.map enc) ≤ 1
  | [] => by simp [PyData.depthAll]
  | t :: ts => by
    rw [List.map_cons, PyData.depthAll]
    have h := encs_depthAll ts
    have h2 : (enc t).depth ≤ 1 := by
      unfold enc
      rw [PyData.depth, PySem.W.depth_ints]
      omega
    omega
theorem encs_depth (ts : List Tr) : (PyData.list (ts.map enc)).depth ≤ 60 := by
  rw [PyData.depth]
  have := encs_depthAll ts
  omega
theorem flat_ints : ∀ t : Tr, flatDs (t.map .int) = true
  | [] => rfl
  | x :: t => by
    rw [List.map_cons, flatDs, flat_ints t]
    rfl
@[simp] theorem enc_apart (t : Tr) : M.apart (.d (enc t)) = true := by
  unfold enc
  rw [M.apart, flatD, flat_ints]
theorem encs_flat : ∀ ts : List Tr, flatDs (ts.map enc) = true
  | [] => rfl
  | t :: ts => by
    rw [List.map_cons, flatDs, encs_flat ts]
    show (flatD (.tuple _) && true) = true
    rw [flatD, flat_ints]
    rfl
@[simp] theorem encs_apart (ts : List Tr) : M.apart (.v (ts.map enc)) = true := by
  rw [M.apart, encs_flat]
@[simp] theorem bool_apart (b : Bool) : M.apart (.d (.bool b)) = true := rfl
@[simp] theorem enc_isTuple (t : Tr) : P.tyOf (enc t) = "tuple" := rfl
theorem enc_tup (t : Tr) : enc t = .tuple (t.map .int) := rfl
@[simp] theorem items_enc (t : Tr) : M.items (.d (enc t)) = some (true, t.map .int) := rfl
/-! the primitives at rows -/
theorem q_eq_of {a b : M} (ha : a.fine = true) (hb : b.fine = true) {r q : Rv} (er : r.m = a) (eq : q.m = b) (hp : a.data.plain = true) (hq : b.data.plain = true) (hd : a.data.depth ≤ 60) : P.eq [r, q] = .ok (.o (.d (.bool (PyData.eqv a.data b.data)))) := by
  subst er eq
  show (if r.m.fine = true ∧ q.m.fine = true ∧ P.okEq r.m.data q.m.data = true then _ else _) = _
  rw [if_pos]
  refine ⟨ha, hb, ?_⟩
  unfold P.okEq
  rw [hp, hq]
  simp [hd]
theorem q_ne_of {a b : M} (ha : a.fine = true) (hb : b.fine = true) {r q : Rv} (er : r.m = a) (eq : q.m = b) (hp : a.data.plain = true) (hq : b.data.plain = true) (hd : a.data.depth ≤ 60) : P.ne [r, q] = .ok (.o (.d (.bool !(PyData.eqv a.data b.data)))) := by
  subst er eq
  show (if r.m.fine = true ∧ q.m.fine = true ∧ P.okEq r.m.data q.m.data = true then _ else _) = _
  rw [if_pos]
  refine ⟨ha, hb, ?_⟩
  unfold P.okEq
  rw [hp, hq]
  simp [hd]
@[simp] theorem q_ne_enc (a : Tr) : P.ne [.o (.d (enc a)), .o (.d (enc a))] = .ok (.o (.d (.bool false))) := by
  rw [q_ne_of (a := .d (enc a)) (b := .d (enc a)) rfl rfl rfl rfl (enc_plain a) (enc_plain a) (enc_depth a)]
  show Res.ok (Rv.o (.d (.bool (!PyData.eqv (enc a) (enc a))))) = _
  rw [enc_eqv]
  rfl
@[simp] theorem q_eq_enc (a : Tr) : P.eq [.o (.d (enc a)), .o (.d (enc a))] = .ok (.o (.d (.bool true))) := by
  rw [q_eq_of (a := .d (enc a)) (b := .d (enc a)) rfl rfl rfl rfl (enc_plain a) (enc_plain a) (enc_depth a)]
  show Res.ok (Rv.o (.d (.bool (PyData.eqv (enc a) (enc a))))) = _
  rw [enc_eqv]
theorem q_ne_encs (ts : List Tr) {r q : Rv} (hr : r.m.fine = true) (hq : q.m.fine = true) (er : r.m.data = .list (ts.map enc)) (eq : q.m.data = .list (ts.map enc)) : P.ne [r, q] = .ok (.o (.d (.bool false))) := by
  have pl : (PyData.list (ts.map enc)).plain = true := by rw [PyData.plain, encs_plain]
  rw [q_ne_of hr hq rfl rfl (by rw [er]; exact pl) (by rw [eq]; exact pl) (by rw [er]; exact encs_depth ts), er, eq, encs_eqv]
  rfl
@[simp] theorem q_lt_enc (a b : Tr) : P.lt [.o (.d (enc a)), .o (.d (enc b))] = .ok (.o (.d (.bool (decide (a < b))))) := by
  show (if (M.d (enc a)).fine = true ∧ (M.d (enc b)).fine = true ∧ P.okLt (enc a) (enc b) = true then Res.ok (Rv.p (.bool (PySem.W.dataLt (enc a) (enc b)))) else _) = _
  rw [if_pos, enc_lt]
  refine ⟨rfl, rfl, ?_⟩
  have h : P.okLt (enc a) (enc b) = (PySem.W.alike (enc a) (enc b) && true && decide ((enc a).depth ≤ 60)) := rfl
  rw [h, enc_alike]
  simp [enc_depth]
@[simp] theorem q_len_enc (a : Tr) : P.len [.o (.d (enc a))] = .ok (.o (.d (.int a.length))) := by
  show Res.ok (Rv.p (.int ((a.map PyData.int).length : Nat))) = _
  rw [List.length_map]
@[simp] theorem q_idx_enc {t : Tr} {i : Int} : P.idx [.o (.d (enc t)), .o (.d (.int i))] = S.o3 (atI (t.map .int) i) fun d => .ok (.o (.d d)) := S.q_idx_t
@[simp] theorem src_enc {pe : Bool} {t : Tr} : srcF pe (.o (.d (enc t))) = .ok (true, t.map .int) := rfl
/-! sorted -/
theorem okSort_encs {ts : List Tr} (h : ∀ t ∈ ts, t ≠ []) : P.okSort (ts.map enc) = true := by
  unfold P.okSort
  simp only [Bool.and_eq_true, Bool.or_eq_true, List.all_eq_true, decide_eq_true_eq]
  refine ⟨⟨fun x hx y hy => ?_, fun x hx => ?_⟩, .inl fun x hx => ?_⟩
  · obtain ⟨a, _, rfl⟩ := List.mem_map.mp hx
    obtain ⟨b, _, rfl⟩ := List.mem_map.mp hy
    exact enc_alike a b
  · obtain ⟨a, _, rfl⟩ := List.mem_map.mp hx
    exact enc_depth a
  · obtain ⟨a, ha, rfl⟩ := List.mem_map.mp hx
    cases a with
    | nil => exact absurd rfl (h _ ha)
    | cons c a => rfl
theorem sort_encs (ts : List Tr) : (ts.map enc).mergeSort (PySem.W.dataLe false id) = (ts.mergeSort leB).map enc := by
  rw [List.map_mergeSort (s := PySem.W.dataLe false id)]
  intro a _ b _
  show leB a b = !PySem.W.dataLt (enc b) (enc a)
  rw [enc_lt]
  unfold leB
  by_cases h : b < a
  · have : ¬ a ≤ b := fun g => g h
    simp [h, this]
  · have : a ≤ b := h
    simp [h, this]
theorem q_sorted {ts : List Tr} (h : ∀ t ∈ ts, t ≠ []) (hl : ts.length ≤ big) {r : Rv} {b : Bool} (hr : r.m.items = some (b, ts.map enc)) : P.sorted [r] = .ok (.o (.v ((ts.mergeSort leB).map enc))) := by
  show (match r.m.items with
    | some (_, xs) => if P.okSort xs = true ∧ xs.length ≤ big then Res.ok (Rv.o (.v (xs.mergeSort (PySem.W.dataLe false id)))) else Res.bad
    | _ => Res.bad) = _
  rw [hr]
  show (if P.okSort (ts.map enc) = true ∧ (ts.map enc).length ≤ big then _ else _) = _
  rw [if_pos ⟨okSort_encs h, by rw [List.length_map]; exact hl⟩, sort_encs]
theorem rev_fall (ts : List Tr) : ((ts.mergeSort leB).map enc).reverse = (fall ts).map enc := by
  unfold fall
  rw [List.map_reverse]
theorem slc1 (x : D) (xs : List D) : P.slc (x :: xs) (some 1) none = xs := by
  unfold P.slc
  rw [show (1 : Int) = ((1 : Nat) : Int) from rfl, HT.sIx_nat, HT.sIx_none]
  have e : min 1 (x :: xs).length = 1 := by simp
  rw [e]
  show (xs.take _) = xs
  exact List.take_of_length_le (by simp)
theorem slcB (xs : List D) {i j : Nat} (h : i ≤ j) (hj : j ≤ xs.length) : P.slc xs (some (i : Int)) (some (j : Int)) = (xs.drop i).take (j - i) := by
  unfold P.slc
  rw [HT.sIx_nat, HT.sIx_nat, Nat.min_eq_left (by omega : i ≤ xs.length), Nat.min_eq_left hj]
end Oa

/-! Integers, rows. -/
namespace Oa
open PySem PySem.Spec PyProof.Rows L2
theorem lv_is_integer {n : Nat} {ks : List M} : lev (n + 1) "is_integer" ks = fnF (lev n) cs0 fuel f_is_integer ks := rfl
theorem lv_law_is_integer {n : Nat} {ks : List M} : lev (n + 1) "_law_is_integer" ks = fnF (lev n) cs0 fuel f__law_is_integer ks := rfl
theorem lv_law_row {n : Nat} {ks : List M} : lev (n + 1) "_law_row" ks = fnF (lev n) cs0 fuel f__law_row ks := rfl
theorem lv_law_draw {n : Nat} {ks : List M} : lev (n + 1) "_law_draw" ks = fnF (lev n) cs0 fuel f__law_draw ks := rfl
theorem lv_law_hand {n : Nat} {ks : List M} : lev (n + 1) "_law_hand" ks = fnF (lev n) cs0 fuel f__law_hand ks := rfl
theorem lv_law_tree {n : Nat} {ks : List M} : lev (n + 1) "_law_tree" ks = fnF (lev n) cs0 fuel f__law_tree ks := rfl
theorem lv_law_branches {n : Nat} {ks : List M} : lev (n + 1) "_law_branches" ks = fnF (lev n) cs0 fuel f__law_branches ks := rfl
theorem lv_law_is_tree {n : Nat} {ks : List M} : lev (n + 1) "_law_is_tree" ks = fnF (lev n) cs0 fuel f__law_is_tree ks := rfl
theorem lv_is_depth_row {n : Nat} {ks : List M} : lev (n + 1) "is_depth_row" ks = fnF (lev n) cs0 fuel f_is_depth_row ks := rfl
theorem lv_ends_of {n : Nat} {ks : List M} : lev (n + 1) "ends_of" ks = fnF (lev n) cs0 fuel f_ends_of ks := rfl
theorem lv_is_in_form {n : Nat} {ks : List M} : lev (n + 1) "is_in_form" ks = fnF (lev n) cs0 fuel f_is_in_form ks := rfl
theorem lv_is_tree {n : Nat} {ks : List M} : lev (n + 1) "is_tree" ks = fnF (lev n) cs0 fuel f_is_tree ks := rfl
theorem lv_law {n : Nat} {ks : List M} : lev (n + 1) "law" ks = fnF (lev n) cs0 fuel f_law ks := rfl
theorem L_int {n : Nat} {i : Int} : lev (n + 1) "is_integer" [.d (.int i)] = .ok (.o (.d (.bool true)), [.d (.int i)]) := by
  rw [lv_is_integer]
  exact V.def_rt (m := [some (.d (.int i))]) (by simp [f_is_integer, slots0]) rfl
theorem L_lint {n : Nat} {i : Int} : lev (n + 1) "_law_is_integer" [.d (.int i)] = .ok (.o (.d (.bool true)), [.d (.int i)]) := by
  rw [lv_law_is_integer]
  exact V.def_rt (m := [some (.d (.int i))]) (by simp [f__law_is_integer, slots0]) rfl
theorem len_fo {k : Int} : ∀ {ts : List Tr}, (fo k ts).length = (ts.map List.length).sum
  | [] => rfl
  | t :: ts => by
    rw [fo_cons, List.length_append, len_fo, List.map_cons, List.sum_cons]
    unfold sh
    rw [List.length_map]
theorem len_row (ts : List Tr) : (row ts).length = 1 + (ts.map List.length).sum := by
  unfold row
  rw [List.length_cons, len_fo, ((fall_perm ts).map List.length).sum_nat]
  omega
theorem len_le_sum : ∀ {ts : List Tr}, (∀ t ∈ ts, t ≠ []) → ts.length ≤ (ts.map List.length).sum
  | [], _ => by simp
  | t :: ts, h => by
    have h1 := len_le_sum fun u hu => h u (List.mem_cons_of_mem t hu)
    have h2 : t.length ≠ 0 := fun e => h t List.mem_cons_self (List.length_eq_zero_iff.mp e)
    rw [List.map_cons, List.sum_cons, List.length_cons]
    omega
section
variable {cf : CfT} {cs : Str → Option D} {fu : Nat}
theorem add1_comp {a b c : Option M} {t : Tr} (hc : c = some (.d (enc t))) (hl : t.length ≤ big) : (Ex.comp false (.p2 .add (.var 3) (.int 1)) (.n 3) (.ex (.var 2)) .nil).ev cf cs [a, b, c, none] = .ok (.o (.v ((sh 1 t).map .int)), [a, b, c, none]) := by
  subst hc
  have h := V.comp_map (cf := cf) (cs := cs) (elt := .p2 .add (.var 3) (.int 1)) (t := .n 3) (it := .ex (.var 2)) (m := [a, b, some (.d (enc t)), none]) (m1 := [a, b, some (.d (enc t)), none]) PyData.int t [a, b, some (.d (enc t)), none] (fun x => [a, b, some (.d (enc t)), some (.d (.int x))]) (fun x => .int (x + 1)) (by simp) rfl (fun x _ => ⟨rfl, rfl, .o (.d (.int (x + 1))), by simp, rfl⟩) hl rfl (fun _ _ => rfl)
  rw [h]
  unfold sh
  rw [List.map_map]
  rfl
@[simp] theorem lst1 {x : D} : lstF false [.o (.d x)] = .ok (.o (.v [x])) := rfl
theorem row_loop {R : D} (tgt : Tr) (hl : tgt.length ≤ big) : ∀ (ts : List Tr) (acc : Tr) (x : Option M), acc ++ fo 1 ts = tgt → ∃ y, forF (.n 2) ((Sts.cons (.ext 1 (.comp false (.p2 .add (.var 3) (.int 1)) (.n 3) (.ex (.var 2)) .nil)) .nil).runs cf cs fu) (ts.map enc) [some (.d R), some (.v (acc.map .int)), x, none] = .ok (.nx [some (.d R), some (.v (tgt.map .int)), y, none])
  | [], acc, x, e => by
    rw [fo_nil, List.append_nil] at e
    subst e
    exact ⟨x, rfl⟩
  | t :: ts, acc, x, e => by
    rw [fo_cons, ← List.append_assoc] at e
    obtain ⟨y, h⟩ := row_loop (R := R) tgt hl ts (acc ++ sh 1 t) (some (.d (enc t))) e
    refine ⟨y, ?_⟩
    have hlen : (acc ++ sh 1 t).length ≤ big := by
      have := congrArg List.length e
      rw [List.length_append] at this
      omega
    rw [List.length_append] at hlen
    have hsh : (sh 1 t).length = t.length := by
      unfold sh
      rw [List.length_map]
    have hb : (Sts.cons (.ext 1 (.comp false (.p2 .add (.var 3) (.int 1)) (.n 3) (.ex (.var 2)) .nil)) .nil).runs cf cs fu [some (.d R), some (.v (acc.map .int)), some (.d (enc t)), none] = .ok (.nx [some (.d R), some (.v ((acc ++ sh 1 t).map .int)), some (.d (enc t)), none]) := by
      refine V.seq_nx (V.ext (k0 := .v (acc.map .int)) (k := .v (acc.map .int)) rfl rfl (add1_comp rfl (by omega)) rfl (k' := .v ((acc ++ sh 1 t).map .int)) ?_) rfl
      show (if (acc.map PyData.int).length + ((sh 1 t).map PyData.int).length ≤ big then some (M.v (acc.map .int ++ (sh 1 t).map .int)) else none) = _
      rw [if_pos (by rw [List.length_map, List.length_map]; exact hlen), ← List.map_append]
    rw [List.map_cons]
    exact V.for_cons rfl hb h
end
theorem L_lrow {n : Nat} {R : D} {b : Bool} {ts : List Tr} (hR : M.items (.d R) = some (b, ts.map enc)) (hne : ∀ t ∈ ts, t ≠ []) (hl : (row ts).length ≤ 1000000) : lev (n + 1) "_law_row" [.d R] = .ok (.o (.d (enc (row ts))), [.d R]) := by
  rw [lv_law_row]
  have hl2 : ts.length ≤ big := by
    have := len_le_sum hne
    rw [len_row] at hl
    show _ ≤ 16777216
    omega
  obtain ⟨y, h⟩ := row_loop (cf := lev n) (cs := cs0) (fu := fuel) (R := R) (row ts) (Nat.le_trans hl (by decide)) (fall ts) [0] none rfl
  refine V.def_rt (m := [some (.d R), some (.v ((row ts).map .int)), y, none]) ?_ rfl
  refine V.seq_nx (V.set (m1 := [some (.d R), none, none, none]) (r := .o (.v (([0] : Tr).map .int))) (m2 := [some (.d R), some (.v (([0] : Tr).map .int)), none, none]) rfl rfl rfl) ?_
  refine V.seq_nx (V.forS (ds := (fall ts).map enc) (m1 := [some (.d R), some (.v (([0] : Tr).map .int)), none, none]) ?_ h) ?_
  · simp [q_sorted hne hl2 (r := .o (.d R)) hR, rev_fall]
  · simp [enc]
end Oa

/-! The hand made, a shuffle, a tree drawn. -/
namespace Oa
open PySem PySem.Spec PyProof.Rows L2
theorem L_draw {n c : Nat} {h : M} {many : Int} (H : HandOk (c + 1) h) (hm : 0 < many) (hm2 : many < 1000000000) : ∃ r h', lev (n + 1) "_law_draw" [h, .d (.int many)] = .ok (.o (.d (.int r)), [h', .d (.int many)]) ∧ 0 ≤ r ∧ r < many ∧ HandOk c h' := by
  rw [lv_law_draw]
  exact draw_ok H hm hm2
theorem draw_call {n c i : Nat} {h : M} {many : Int} (H : HandOk (c + 1) h) (hm : 0 < many) (hm2 : many < 1000000000) : ∃ r h', (∀ m : Sl, m[i]? = some (some h) → callWith (lev (n + 1)) "_law_draw" [.w i, .r (.o (.d (.int many)))] m = .ok (.o (.d (.int r)), m.set i (some h'))) ∧ 0 ≤ r ∧ r < many ∧ HandOk c h' := by
  obtain ⟨r, h', e, h1, h2, h3⟩ := L_draw (n := n) H hm hm2
  exact ⟨r, h', fun m hq => S.cw_w hq e, h1, h2, h3⟩
theorem L_hand {n : Nat} {ns : List Int} (hl : ns.length ≤ 63) : ∃ h, lev (n + 1) "_law_hand" [.s (ns.map .int)] = .ok (.o h, [.s (ns.map .int)]) ∧ HandOk 1000000000 h := by
  rw [lv_law_hand]
  let f : Int → Int := fun x => if x < 0 then -x else x
  have hs : P.slc (ns.map PyData.int) none (some 63) = ns.map PyData.int := by
    unfold P.slc
    rw [show (63 : Int) = ((63 : Nat) : Int) from rfl, HT.sIx_nat, HT.sIx_none, Nat.min_eq_right (by rw [List.length_map]; exact hl)]
    show (ns.map PyData.int).take (_ - 0) = _
    exact List.take_of_length_le (by omega)
  refine ⟨hd (ns.map f) 0 0 (1 + ((ns.map f).length : Nat)) 0, V.def_rt (m := [some (.s (ns.map .int)), some (.d (.list ((ns.map f).map .int))), none]) ?_ rfl, ns.map f, 0, 0, _, 0, rfl, Nat.zero_le _, ?_, by omega, by omega, ?_, by omega, by omega⟩
  · have hc : (Ex.comp false (.p1 .abs (.p1 .int (.var 2))) (.n 2) (.ex (.slH (.var 0) (.int 63))) .nil).ev (lev n) cs0 (slots0 3 [.s (ns.map .int)]) = .ok (.o (.v (ns.map fun x => .int (f x))), [some (.s (ns.map .int)), none, none]) :=
      V.comp_map (m1 := [some (.s (ns.map .int)), none, none]) PyData.int ns [some (.s (ns.map .int)), none, none] (fun x => [some (.s (ns.map .int)), none, some (.d (.int x))]) (fun x => .int (f x)) (by simp [slots0, hs]) rfl (fun x _ => ⟨rfl, rfl, .o (.d (.int (f x))), by simp [f], rfl⟩) (by show _ ≤ 16777216; omega) rfl (fun _ _ => rfl)
    refine V.seq_nx (V.set (m2 := [some (.s (ns.map .int)), some (.v ((ns.map f).map .int)), none]) hc rfl ?_) ?_
    · rw [List.map_map]
      rfl
    · have hv : ∀ a b c d e : D, lstV [.o (.d a), .o (.d b), .o (.d c), .o (.d d), .o (.d e)] = .ok (.o (.v [a, b, c, d, e])) := fun _ _ _ _ _ => rfl
      simp [lstF, hv]
  · intro x hx
    obtain ⟨y, _, rfl⟩ := List.mem_map.mp hx
    show 0 ≤ if y < 0 then -y else y
    split <;> omega
  · rw [List.length_map]
    omega
/-! ### shuffled -/
theorem erase_perm {α : Type} : ∀ (xs : List α) (j : Nat) (h : j < xs.length), (xs[j] :: xs.eraseIdx j).Perm xs
  | x :: xs, 0, _ => .refl _
  | x :: xs, j + 1, h => by
    have h2 : j < xs.length := by simpa using h
    have := erase_perm xs j h2
    exact (List.Perm.swap x (xs[j]'h2) _).trans (this.cons x)
theorem map_erase {α β : Type} (f : α → β) : ∀ (xs : List α) (j : Nat), (xs.map f).eraseIdx j = (xs.eraseIdx j).map f
  | [], _ => rfl
  | x :: xs, 0 => rfl
  | x :: xs, j + 1 => by
    show f x :: (xs.map f).eraseIdx j = _
    rw [map_erase f xs j]
    rfl
theorem ev_popAt {cf : CfT} {cs : Str → Option D} {i : Nat} {a : Ex} {m m1 : Sl} {j : Int} {ys xs : List D} {d : D} (h0 : m[i]? = some (some (.v ys))) (h : a.ev cf cs m = .ok (.o (.d (.int j)), m1)) (h1 : m1[i]? = some (some (.v xs))) (hj : 0 ≤ j) (hb : j < 1000000000) (hd : xs[j.toNat]? = some d) : (Ex.popAt i a).ev cf cs m = .ok (.o (.d d), m1.set i (some (.v (xs.eraseIdx j.toNat)))) := by
  show atF M.isV i (intB (a.ev cf cs) (popAtF i)) m = _
  unfold atF
  simp only [h0, M.isV, if_true]
  rw [S.intB_eq, h]
  show popAtF i j m1 = _
  unfold popAtF
  simp only [h1]
  rw [if_pos ⟨hj, by omega⟩, hd]
theorem addTo_v {xs : List D} {d : D} (h : xs.length < 1000000) : addTo (.v xs) (.o (.d d)) = some (.v (xs ++ [d])) := by
  show (if xs.length < big then some (M.v (xs ++ [d])) else none) = _
  rw [if_pos (Nat.lt_trans h (by decide))]
end Oa

/-! A tree drawn. -/
namespace Oa
open PySem PySem.Spec PyProof.Rows L2
theorem rng_nil {a b : Int} (h : b ≤ a) : rngList a b = [] := by
  unfold rngList
  rw [show (b - a).toNat = 0 by omega]
  rfl
theorem rng_cons {a b : Int} (h : a < b) : rngList a b = .int a :: rngList (a + 1) b := by
  unfold rngList
  rw [show (b - a).toNat = (b - (a + 1)).toNat + 1 by omega, List.range_succ_eq_map, List.map_cons, List.map_map]
  congr 1
  · simp
  · refine List.map_congr_left fun i _ => ?_
    show PyData.int _ = PyData.int _
    congr 1
    simp only [Nat.succ_eq_add_one]
    omega
def dn (p : Nat) : List D := (List.range p).map fun n => .int ((p : Int) - (n : Nat))
theorem dn_zero : dn 0 = [] := rfl
theorem dn_succ (p : Nat) : dn (p + 1) = .int ((p + 1 : Nat) : Int) :: dn p := by
  unfold dn
  rw [List.range_succ_eq_map, List.map_cons, List.map_map]
  congr 1
  refine List.map_congr_left fun i _ => ?_
  show PyData.int _ = PyData.int _
  congr 1
  simp only [Nat.succ_eq_add_one]
  omega
theorem at3 (a b c : D) {j : Int} (h0 : 0 ≤ j) (h : j < 3) : ∃ x, atI [a, b, c] j = some x ∧ (x = a ∨ x = b ∨ x = c) := by
  have : j = 0 ∨ j = 1 ∨ j = 2 := by omega
  rcases this with rfl | rfl | rfl
  · exact ⟨a, rfl, .inl rfl⟩
  · exact ⟨b, rfl, .inr (.inl rfl)⟩
  · exact ⟨c, rfl, .inr (.inr rfl)⟩
theorem ixN_nat {n k : Nat} (h : k < n) : ixN n (k : Int) = some k := by
  unfold ixN
  rw [if_pos (by omega), if_pos (by omega), Int.toNat_natCast]
theorem at_get {α : Type} {xs : List α} {k : Nat} {x : α} (h : xs[k]? = some x) : atI xs (k : Int) = some x := by
  obtain ⟨hk, e⟩ := List.getElem?_eq_some_iff.mp h
  rw [at_nat hk, e]
@[simp] theorem lst3 {a b c : D} : lstF false [.o (.d a), .o (.d b), .o (.d c)] = .ok (.o (.v [a, b, c])) := rfl
@[simp] theorem lst0 : lstF false [] = .ok (.o (.v [])) := rfl
/-! weights -/
def w1 (ts : List Tr) : Nat := (ts.map List.length).sum
def wt (xss : List (List Tr)) : Nat := (xss.map w1).sum
theorem wt_take : ∀ (xss : List (List Tr)) (p : Nat) (ts : List Tr), xss[p]? = some ts → wt (xss.take (p + 1)) = wt (xss.take p) + w1 ts
  | [], p, ts, h => by simp at h
  | x :: xss, 0, ts, h => by
    simp at h
    subst h
    simp [wt]
  | x :: xss, p + 1, ts, h => by
    have := wt_take xss p ts (by simpa using h)
    simp only [wt, List.take_succ_cons, List.map_cons, List.sum_cons] at this ⊢
    omega
theorem wt_set : ∀ (xss : List (List Tr)) (p q : Nat) (ts us : List Tr), q < p → xss[q]? = some ts → wt ((xss.set q us).take p) + w1 ts = wt (xss.take p) + w1 us
  | [], _, _, _, _, _, h => by simp at h
  | x :: xss, 0, q, ts, us, hq, h => by omega
  | x :: xss, p + 1, 0, ts, us, hq, h => by
    simp at h
    subst h
    simp only [wt, List.set_cons_zero, List.take_succ_cons, List.map_cons, List.sum_cons]
    omega
  | x :: xss, p + 1, q + 1, ts, us, hq, h => by
    have := wt_set xss p q ts us (by omega) (by simpa using h)
    simp only [wt, List.set_cons_succ, List.take_succ_cons, List.map_cons, List.sum_cons] at this ⊢
    omega
theorem w1_app (ts : List Tr) (t : Tr) : w1 (ts ++ [t]) = w1 ts + t.length := by
  simp [w1]
theorem Good.ne {t : Tr} (h : Good t) : t ≠ [] := by
  obtain ⟨r, rfl, _⟩ := h.sd
  exact List.cons_ne_nil _ _
abbrev fsM (fss : List (List Tr)) : M := .l (fss.map fun ts => .v (ts.map enc))
section
variable {n c : Nat} {most way : Int} {m : Nat}
/-- the places above -/
theorem tree_above (hm : m ≤ 50) (hway : 0 ≤ way ∧ way < 3) {h : M} (H : HandOk (c + 2 * m) h) (hm1 : 1 ≤ m) : ∃ (h' : M) (ab : List Int) (x : Option M), forF (.n 5) ((Sts.forB (f__law_tree.body.tl.tl.tl.hd)).runs (lev (n + 1)) cs0 fuel) (rngList 1 m) [some h, some (.d (.int most)), some (.d (.int m)), some (.d (.int way)), some (.v [.int 0]), none, none] = .ok (.nx [some h', some (.d (.int most)), some (.d (.int m)), some (.d (.int way)), some (.v (ab.map .int)), x, none]) ∧ ab.length = m ∧ (∀ (i : Nat) (v : Int), ab[i]? = some v → 1 ≤ i → 0 ≤ v ∧ v < i) ∧ HandOk c h' := by
  obtain ⟨m', e, h', ab, x, rfl, hl, hab, H'⟩ : ∃ m', forF (.n 5) ((Sts.forB (f__law_tree.body.tl.tl.tl.hd)).runs (lev (n + 1)) cs0 fuel) (rngList 1 m) [some h, some (.d (.int most)), some (.d (.int m)), some (.d (.int way)), some (.v [.int 0]), none, none] = .ok (.nx m') ∧ ∃ (h' : M) (ab : List Int) (x : Option M), m' = [some h', some (.d (.int most)), some (.d (.int m)), some (.d (.int way)), some (.v (ab.map .int)), x, none] ∧ ab.length = m ∧ (∀ (i : Nat) (v : Int), ab[i]? = some v → 1 ≤ i → 0 ≤ v ∧ v < i) ∧ HandOk c h' := by
    obtain ⟨m', e, p, h', ab, x, hp1, hp2, hp3, rfl, hl, hab, H'⟩ := V.for_inv (t := .n 5) (body := (Sts.forB (f__law_tree.body.tl.tl.tl.hd)).runs (lev (n + 1)) cs0 fuel)
      (fun ds s => ∃ (p : Nat) (h' : M) (ab : List Int) (x : Option M), ds = rngList p m ∧ p ≤ m ∧ 1 ≤ p ∧ s = [some h', some (.d (.int most)), some (.d (.int m)), some (.d (.int way)), some (.v (ab.map .int)), x, none] ∧ ab.length = p ∧ (∀ (i : Nat) (v : Int), ab[i]? = some v → 1 ≤ i → 0 ≤ v ∧ v < i) ∧ HandOk (c + 2 * (m - p)) h') (by
      rintro d ds _ ⟨p, h', ab, x, hds, hpm, hp1, rfl, hl, hab, H'⟩
      by_cases hp : p < m
      case neg => rw [rng_nil (by omega)] at hds; cases hds
      rw [rng_cons (by omega)] at hds
      cases hds
      obtain ⟨r1, h1, e1, a0, a1, H1⟩ := draw_call (n := n) (i := 0) (many := (p : Int)) (c := c + 2 * (m - p) - 1) (H'.mono (by omega)) (by omega) (by omega)
      obtain ⟨r2, h2, e2, b0, b1, H2⟩ := draw_call (n := n) (i := 0) (many := 3) (c := c + 2 * (m - p) - 2) (H1.mono (by omega)) (by omega) (by omega)
      obtain ⟨w, ew, hw⟩ : ∃ w, atI [PyData.int 0, .int 0, .int way] r2 = some (.int w) ∧ 0 ≤ w ∧ w < 3 := by
        obtain ⟨x, e, rfl | rfl | rfl⟩ := at3 (.int 0) (.int 0) (.int way) b0 b1
        · exact ⟨_, e, by omega⟩
        · exact ⟨_, e, by omega⟩
        · exact ⟨_, e, hway⟩
      obtain ⟨v, ev, hv⟩ : ∃ v, atI [PyData.int r1, .int ((p : Int) - 1), .int ((p : Int) / 2)] w = some (.int v) ∧ 0 ≤ v ∧ v < p := by
        obtain ⟨x, e, rfl | rfl | rfl⟩ := at3 (.int r1) (.int ((p : Int) - 1)) (.int ((p : Int) / 2)) hw.1 hw.2
        · exact ⟨_, e, a0, a1⟩
        · exact ⟨_, e, by omega⟩
        · exact ⟨_, e, by omega⟩
      have d2 := q_fdivS (i := (p : Int)) (j := 2) (by omega) (by omega)
      refine ⟨[some h', some (.d (.int most)), some (.d (.int m)), some (.d (.int way)), some (.v (ab.map .int)), some (.d (.int p)), none], [some h2, some (.d (.int most)), some (.d (.int m)), some (.d (.int way)), some (.v ((ab ++ [v]).map .int)), some (.d (.int p)), none], rfl, ?_, p + 1, h2, ab ++ [v], _, rfl, by omega, by omega, rfl, by simp [hl], ?_, H2.mono (by omega)⟩
      · refine V.seq_nx (V.app (k0 := .v (ab.map .int)) (k := .v (ab.map .int)) rfl rfl (r := .o (.d (.int v))) (m1 := [some h2, some (.d (.int most)), some (.d (.int m)), some (.d (.int way)), some (.v (ab.map .int)), some (.d (.int p)), none]) ?_ rfl (addTo_v (by rw [List.length_map]; omega))) ?_
        · simp [S.ev_call, e1, e2, ew, ev, d2]
        · show Res.ok (Out.nx _) = _
          rw [List.map_append]
          rfl
      · intro i u hu hi
        by_cases h : i < ab.length
        · rw [List.getElem?_append_left h] at hu
          exact hab i u hu hi
        · rw [List.getElem?_append_right (by omega)] at hu
          by_cases h0 : i - ab.length = 0
          · rw [h0] at hu
            cases hu
            have : i = p := by omega
            subst this
            exact hv
          · rw [List.getElem?_eq_none (by simp; omega)] at hu
            cases hu) (rngList 1 m) [some h, some (.d (.int most)), some (.d (.int m)), some (.d (.int way)), some (.v [.int 0]), none, none] ⟨1, h, [0], none, rfl, hm1, Nat.le_refl _, rfl, rfl, (fun i v hv hi => by
        rw [List.getElem?_eq_none (by simp; omega)] at hv
        cases hv), H.mono (by omega)⟩
    have : p = m := by
      by_cases hp : p < m
      · rw [rng_cons (by omega)] at hp1
        cases hp1
      · omega
    subst this
    exact ⟨_, e, h', ab, x, rfl, hl, hab, H'.mono (by omega)⟩
  exact ⟨h', ab, x, e, hl, hab, H'⟩
/-- an empty list for each place -/
theorem tree_found (hm : m ≤ 50) {h a b d e : Option M} (x : Option M) : ∃ y, (Ex.comp true (.lst false .nil) (.n 5) (.rng1 (.var 2)) .nil).ev (lev (n + 1)) cs0 [a, b, some (.d (.int m)), d, e, x, none] = .ok (.o (fsM (List.replicate m [])), [a, b, some (.d (.int m)), d, e, y, none]) := by
  obtain ⟨m', acc', et, k, y, hk, hkm, rfl, rfl⟩ := V.turns_inv (own := true) (t := .n 5) (cond := Exs.nil.evc (lev (n + 1)) cs0) (elt := (Ex.lst false .nil).ev (lev (n + 1)) cs0)
    (fun ds s acc => ∃ (k : Nat) (y : Option M), ds = rngList k m ∧ k ≤ m ∧ acc = List.replicate k (M.v []) ∧ s = [a, b, some (.d (.int m)), d, e, y, none]) (by
    rintro q ds _ _ ⟨k, y, hds, hkm, rfl, rfl⟩
    by_cases hp : k < m
    case neg => rw [rng_nil (by omega)] at hds; cases hds
    rw [rng_cons (by omega)] at hds
    cases hds
    refine ⟨[a, b, some (.d (.int m)), d, e, some (.d (.int k)), none], [a, b, some (.d (.int m)), d, e, some (.d (.int k)), none], rfl, .inr ⟨.o (.v []), _, .v [], rfl, rfl, rfl, ?_, k + 1, _, rfl, by omega, ?_, rfl⟩⟩
    · rw [List.length_replicate]
      show _ < 16777216
      omega
    · exact List.replicate_succ'.symm) (rngList 0 m) [a, b, some (.d (.int m)), d, e, x, none] [] ⟨0, x, rfl, Nat.zero_le _, rfl, rfl⟩
  have : k = m := by
    by_cases hp : k < m
    · rw [rng_cons (by omega)] at hk
      cases hk
    · omega
  subst this
  have hs : (Itx.rng1 (.var 2)).evi (lev (n + 1)) cs0 ((Ex.lst false .nil).pu && Exs.nil.pu) [a, b, some (.d (.int k)), d, e, x, none] = .ok (rngList 0 k, [a, b, some (.d (.int k)), d, e, x, none]) := by
    exact S.rng1_of (by simp) (by omega) (by omega)
  refine ⟨pureAt [a, b, some (.d (.int k)), d, e, x, none] 5, ?_⟩
  rw [V.comp_of hs et]
  show Res.ok (Rv.o (.l (List.replicate k (M.v []))), _) = Res.ok (Rv.o (.l ((List.replicate k []).map _)), _)
  rw [List.map_replicate]
  rfl
/-- each hung below the one above it -/
theorem tree_hang (hm : m ≤ 50) {h a b : Option M} {ab : List Int} (hl : ab.length = m) (hab : ∀ (i : Nat) (v : Int), ab[i]? = some v → 1 ≤ i → 0 ≤ v ∧ v < i) : ∀ (p : Nat) (fss : List (List Tr)) (x : Option M), p < m → fss.length = m → (∀ ts ∈ fss, ∀ t ∈ ts, Good t) → wt (fss.take (p + 1)) + (p + 1) ≤ m → ∃ (fss' : List (List Tr)) (y : Option M), forF (.n 5) ((Sts.forB (f__law_tree.body.tl.tl.tl.tl.tl.hd)).runs (lev (n + 1)) cs0 fuel) (dn p) [h, a, some (.d (.int m)), b, some (.v (ab.map .int)), x, some (fsM fss)] = .ok (.nx [h, a, some (.d (.int m)), b, some (.v (ab.map .int)), y, some (fsM fss')]) ∧ fss'.length = m ∧ (∀ ts ∈ fss', ∀ t ∈ ts, Good t) ∧ wt (fss'.take 1) + 1 ≤ m
  | 0, fss, x, hp, hf, hg, hw => ⟨fss, x, rfl, hf, hg, hw⟩
  | p + 1, fss, x, hp, hf, hg, hw => by
    obtain ⟨v, ev⟩ : ∃ v, ab[p + 1]? = some v := ⟨_, List.getElem?_eq_getElem (by omega)⟩
    obtain ⟨v0, v1⟩ := hab _ _ ev (by omega)
    obtain ⟨q, rfl⟩ : ∃ q : Nat, v = (q : Int) := ⟨v.toNat, by omega⟩
    have hq : q < p + 1 := by omega
    obtain ⟨us, eu⟩ : ∃ us : List Tr, fss[p + 1]? = some us := ⟨_, List.getElem?_eq_getElem (by omega)⟩
    obtain ⟨ts, et⟩ : ∃ ts : List Tr, fss[q]? = some ts := ⟨_, List.getElem?_eq_getElem (by omega)⟩
    have gu : ∀ t ∈ us, Good t := hg us (List.mem_of_getElem? eu)
    have gt : ∀ t ∈ ts, Good t := hg ts (List.mem_of_getElem? et)
    have h1 := wt_take fss (p + 1) us eu
    have h2 := wt_set fss (p + 1) q ts (ts ++ [row us]) (by omega) et
    have h3 := w1_app ts (row us)
    have h4 : (row us).length = 1 + w1 us := len_row us
    have h5 : ts.length ≤ w1 ts := len_le_sum fun t h => (gt t h).ne
    have h6 := wt_take fss q ts et
    have h7 : wt (fss.take (q + 1)) ≤ wt (fss.take (p + 1)) := by
      have : ∀ d, wt (fss.take (q + 1)) ≤ wt (fss.take (q + 1 + d)) := by
        intro d
        have e : wt (fss.take (q + 1 + d)) = wt (fss.take (q + 1)) + wt ((fss.drop (q + 1)).take d) := by
          rw [List.take_add]
          unfold wt
          rw [List.map_append, List.sum_append]
        omega
      have := this (p - q)
      rw [show q + 1 + (p - q) = p + 1 by omega] at this
      exact this
    obtain ⟨fss', y, e, r1, r2, r3⟩ := tree_hang hm (h := h) (a := a) (b := b) hl hab p (fss.set q (ts ++ [row us])) (some (.d (.int ((p + 1 : Nat) : Int)))) (by omega) (by rw [List.length_set]; exact hf) (by
      intro xs hx t ht
      rcases List.mem_or_eq_of_mem_set hx with hx | rfl
      · exact hg xs hx t ht
      · rcases List.mem_append.mp ht with ht | ht
        · exact gt t ht
        · rw [List.mem_singleton] at ht
          subst ht
          exact good_row gu) (by omega)
    refine ⟨fss', y, ?_, r1, r2, r3⟩
    rw [dn_succ]
    have am : atI (fss.map fun (ts : List Tr) => M.v (ts.map enc)) ((p + 1 : Nat) : Int) = some (.v (us.map enc)) := at_get (by rw [List.getElem?_map, eu]; rfl)
    have aa : atI (ab.map PyData.int) ((p + 1 : Nat) : Int) = some (.int (q : Int)) := at_get (by rw [List.getElem?_map, ev]; rfl)
    have aq : (fss.map fun (ts : List Tr) => M.v (ts.map enc))[q]? = some (.v (ts.map enc)) := by rw [List.getElem?_map, et]; rfl
    have hx : ixN (fss.map fun (ts : List Tr) => M.v (ts.map enc)).length (q : Int) = some q := ixN_nat (by rw [List.length_map]; omega)
    refine V.for_cons (m1 := [h, a, some (.d (.int m)), b, some (.v (ab.map .int)), some (.d (.int ((p + 1 : Nat) : Int))), some (fsM fss)]) rfl (V.seq_nx (V.appX (k0 := fsM fss) (k := fsM fss) (j := (q : Int)) (r := .o (.d (enc (row us)))) (k' := fsM (fss.set q (ts ++ [row us]))) (m1 := [h, a, some (.d (.int m)), b, some (.v (ab.map .int)), some (.d (.int ((p + 1 : Nat) : Int))), some (fsM fss)]) (m2 := [h, a, some (.d (.int m)), b, some (.v (ab.map .int)), some (.d (.int ((p + 1 : Nat) : Int))), some (fsM fss)]) rfl rfl ?_ rfl ?_ ?_ rfl ?_) rfl) e
    · simp only [S.ev_p2, S.ev_var, List.getElem?_cons_succ, List.getElem?_cons_zero, S.vr_some, S.look_v, S.look_d, Res.bind_ok, S.isB_b, S.pu_var, Bool.not_true, Bool.and_false, Bool.false_eq_true, if_false, S.f_idx, S.q_idx_bv, aa, S.o3_some]
    · show (match ixN (fss.map fun (ts : List Tr) => M.v (ts.map enc)).length (q : Int) with
        | some i => (match (fss.map fun (ts : List Tr) => M.v (ts.map enc))[i]? with
          | some (.v _) => true
          | _ => false)
        | none => false) = true
      rw [hx]
      simp only [aq]
    · have hL := L_lrow (n := n) (R := .list (us.map enc)) (b := false) (ts := us) rfl (fun t h => (gu t h).ne) (by omega)
      simp only [S.ev_call, S.eva_r, S.eva_nil, S.pua_nil, S.ev_p2, S.ev_var, List.getElem?_cons_succ, List.getElem?_cons_zero, S.vr_some, S.look_l, S.look_d, Res.bind_ok, S.isB_b, S.pu_var, Bool.not_true, Bool.and_false, Bool.false_eq_true, if_false, S.f_idx, S.q_idx_bl, am, S.o3_some, S.cw_bv, hL, enc_apart, if_true]
    · show (match ixN (fss.map fun (ts : List Tr) => M.v (ts.map enc)).length (q : Int) with
        | some i => (match (fss.map fun (ts : List Tr) => M.v (ts.map enc))[i]? with
          | some (.v xs) => (addTo (.v xs) (.o (.d (enc (row us))))).map fun q => M.l ((fss.map fun (ts : List Tr) => M.v (ts.map enc)).set i q)
          | _ => none)
        | none => none) = _
      rw [hx]
      simp only [aq]
      rw [addTo_v (by rw [List.length_map]; omega)]
      show some (M.l _) = some (M.l _)
      rw [List.map_set, List.map_append]
      rfl
end
theorem L_tree {n c : Nat} {h : M} {most : Nat} (H : HandOk (c + 200) h) (hm : 0 < most) (hm2 : most ≤ 50) : ∃ t h', lev (n + 2) "_law_tree" [h, .d (.int most)] = .ok (.o (.d (enc t)), [h', .d (.int most)]) ∧ Good t ∧ t.length ≤ most ∧ HandOk c h' := by
  rw [lv_law_tree]
  obtain ⟨r1, h1, e1, a0, a1, H1⟩ := draw_call (n := n) (i := 0) (many := (most : Int)) (c := c + 199) (H.mono (by omega)) (by omega) (by omega)
  obtain ⟨m, hmr⟩ : ∃ m : Nat, 1 + r1 = (m : Int) := ⟨(1 + r1).toNat, by omega⟩
  have hm50 : m ≤ 50 := by omega
  obtain ⟨way, h2, e2, b0, b1, H2⟩ := draw_call (n := n) (i := 0) (many := 3) (c := c + 198) (H1.mono (by omega)) (by omega) (by omega)
  obtain ⟨h3, ab, x, e3, hl, hab, H3⟩ := tree_above (n := n) (c := c) (most := (most : Int)) hm50 ⟨b0, b1⟩ (H2.mono (by omega)) (by omega : 1 ≤ m)
  obtain ⟨y, e4⟩ := tree_found (n := n) (m := m) hm50 (a := some h3) (b := some (.d (.int (most : Int)))) (d := some (.d (.int way))) (e := some (.v (ab.map .int))) x (h := none)
  have hrep : wt ((List.replicate m ([] : List Tr)).take (m - 1 + 1)) = 0 := by
    unfold wt
    rw [List.take_replicate, List.map_replicate]
    simp [w1]
  obtain ⟨fss, z, e5, f1, f2, f3⟩ := tree_hang (n := n) (m := m) hm50 (h := some h3) (a := some (.d (.int (most : Int)))) (b := some (.d (.int way))) hl hab (m - 1) (List.replicate m []) y (by omega) (List.length_replicate) (by
    intro ts hts t ht
    rw [List.eq_of_mem_replicate hts] at ht
    cases ht) (by omega)
  obtain ⟨us, eu⟩ : ∃ us : List Tr, fss[0]? = some us := ⟨_, List.getElem?_eq_getElem (by omega)⟩
  have gu : ∀ t ∈ us, Good t := f2 us (List.mem_of_getElem? eu)
  have h6 : wt (fss.take 1) = 0 + w1 us := wt_take fss 0 us eu
  have h4 : (row us).length = 1 + w1 us := len_row us
  have h40 : (row us).length ≤ m := by omega
  refine ⟨row us, h3, V.def_rt (m := [some h3, some (.d (.int (most : Int))), some (.d (.int m)), some (.d (.int way)), some (.v (ab.map .int)), z, some (fsM fss)]) ?_ rfl, good_row gu, by omega, H3⟩
  refine V.seq_nx (V.set (r := .o (.d (.int m))) (m1 := [some h1, some (.d (.int (most : Int))), none, none, none, none, none]) (m2 := [some h1, some (.d (.int (most : Int))), some (.d (.int m)), none, none, none, none]) ?_ rfl rfl) ?_
  · show Ex.ev _ _ _ [some h, some (.d (.int (most : Int))), none, none, none, none, none] = _
    simp [S.ev_call, e1, hmr]
  refine V.seq_nx (V.set (r := .o (.d (.int way))) (m1 := [some h2, some (.d (.int (most : Int))), some (.d (.int m)), none, none, none, none]) (m2 := [some h2, some (.d (.int (most : Int))), some (.d (.int m)), some (.d (.int way)), none, none, none]) ?_ rfl rfl) ?_
  · simp [S.ev_call, e2]
  refine V.seq_nx (V.set (r := .o (.v [.int 0])) (m1 := [some h2, some (.d (.int (most : Int))), some (.d (.int m)), some (.d (.int way)), none, none, none]) (m2 := [some h2, some (.d (.int (most : Int))), some (.d (.int m)), some (.d (.int way)), some (.v [.int 0]), none, none]) rfl rfl rfl) ?_
  refine V.seq_nx (V.forS (ds := rngList 1 m) (m1 := [some h2, some (.d (.int (most : Int))), some (.d (.int m)), some (.d (.int way)), some (.v [.int 0]), none, none]) ?_ e3) ?_
  · exact S.rng2_of (i := 1) (j := (m : Int)) (m1 := [some h2, some (.d (.int (most : Int))), some (.d (.int m)), some (.d (.int way)), some (.v [.int 0]), none, none]) rfl rfl (by omega) (by omega) (by omega) (by omega)
  refine V.seq_nx (V.set (m2 := [some h3, some (.d (.int (most : Int))), some (.d (.int m)), some (.d (.int way)), some (.v (ab.map .int)), y, some (fsM (List.replicate m []))]) e4 rfl rfl) ?_
  refine V.seq_nx (V.forS (ds := dn (m - 1)) (m1 := [some h3, some (.d (.int (most : Int))), some (.d (.int m)), some (.d (.int way)), some (.v (ab.map .int)), y, some (fsM (List.replicate m []))]) ?_ e5) ?_
  · have hd : (List.range ((m : Int) - 1 - 0).toNat).map (fun n => PyData.int ((m : Int) - 1 - (n : Nat))) = dn (m - 1) := by
      unfold dn
      rw [show ((m : Int) - 1 - 0).toNat = m - 1 by omega]
      exact List.map_congr_left fun i _ => congrArg PyData.int (by omega)
    rw [← hd]
    exact S.rngD_of (i := (m : Int) - 1) (j := 0) (m1 := [some h3, some (.d (.int (most : Int))), some (.d (.int m)), some (.d (.int way)), some (.v (ab.map .int)), y, some (fsM (List.replicate m []))]) (by simp) (by simp) (by omega) (by omega) (by omega) (by omega)
  · have am : atI (fss.map fun (ts : List Tr) => M.v (ts.map enc)) 0 = some (.v (us.map enc)) := at_get (k := 0) (by rw [List.getElem?_map, eu]; rfl)
    have hL := L_lrow (n := n) (R := .list (us.map enc)) (b := false) (ts := us) rfl (fun t h => (gu t h).ne) (by omega)
    simp only [S.runs_cons, S.run_ret, S.ev_call, S.eva_r, S.eva_nil, S.pua_nil, S.ev_p2, S.ev_var, S.ev_int, List.getElem?_cons_succ, List.getElem?_cons_zero, S.vr_some, S.look_l, S.look_d, Res.bind_ok, S.isB_b, S.pu_var, S.pu_int, Bool.not_true, Bool.and_false, Bool.false_eq_true, if_false, S.f_idx, S.q_idx_bl, am, S.o3_some, S.cw_bv, hL, enc_apart, if_true, S.own_o, S.sq_rt]
end Oa

/-! The tests of a tree. -/
namespace Oa
open PySem PySem.Spec PyProof.Rows L2
theorem all_true (xs : List D) (h : ∀ x ∈ xs, x = .bool true) : P.all [.o (.v xs)] = .ok (.o (.d (.bool true))) := by
  have e : P.blsOf xs = some (xs.map fun _ => true) := by
    induction xs with
    | nil => rfl
    | cons x xs ih =>
      have := h x List.mem_cons_self
      subst this
      show (P.blsOf xs).map (true :: ·) = _
      rw [ih fun y hy => h y (List.mem_cons_of_mem _ hy)]
      rfl
  show (match P.blsOf xs with
      | some bs => Res.ok (Rv.p (.bool (bs.all id)))
      | none => Res.bad) = _
  rw [e]
  show Res.ok (Rv.o (.d (.bool _))) = _
  rw [List.all_eq_true.mpr]
  intro b hb
  obtain ⟨_, _, rfl⟩ := List.mem_map.mp hb
  rfl
theorem all_map {β : Type} (xs : List β) : P.all [.o (.v (xs.map fun _ => .bool true))] = .ok (.o (.d (.bool true))) := all_true _ fun x hx => by
  obtain ⟨_, _, rfl⟩ := List.mem_map.mp hx
  rfl
/-! ### is_depth_row -/
theorem stp_zip : ∀ (r : List Int) (d : Int), Stp1 d r → ∀ p ∈ (d :: r).zip r, p.2 ≤ p.1 + 1
  | [], _, _, p, hp => by simp at hp
  | x :: r, d, h, p, hp => by
    rw [List.zip_cons_cons] at hp
    rcases List.mem_cons.mp hp with rfl | hp
    · exact h.1
    · exact stp_zip r x h.2 p hp
theorem zip_ints : ∀ (a b : List Int), (a.map PyData.int).zip (b.map PyData.int) = (a.zip b).map fun p => (PyData.int p.1, PyData.int p.2)
  | [], _ => rfl
  | _ :: _, [] => rfl
  | x :: a, y :: b => by
    simp only [List.map_cons, List.zip_cons_cons, zip_ints a b]
theorem g_zipT {pe : Bool} {xs ys : List D} : gZip pe [.o (.d (.tuple xs)), .o (.d (.tuple ys))] = .ok ((xs.zip ys).map fun p => .tuple [p.1, p.2]) := rfl
theorem L_depth {n : Nat} {t : Tr} (h : Good t) (hl : t.length ≤ 1000) : lev (n + 2) "is_depth_row" [.d (enc t)] = .ok (.o (.d (.bool true)), [.d (enc t)]) := by
  rw [lv_is_depth_row]
  obtain ⟨r, rfl, hr⟩ := h.sd
  have hs := h.steps0
  have c1 : (Ex.comp false (.call "is_integer" (.r (.var 1) .nil)) (.n 1) (.ex (.var 0)) .nil).ev (lev (n + 1)) cs0 [some (.d (enc (0 :: r))), none, none] = .ok (.o (.v ((0 :: r).map fun _ => .bool true)), [some (.d (enc (0 :: r))), none, none]) :=
    V.comp_map (m1 := [some (.d (enc (0 :: r))), none, none]) PyData.int (0 :: r) [some (.d (enc (0 :: r))), none, none] (fun x => [some (.d (enc (0 :: r))), some (.d (.int x)), none]) (fun _ => .bool true) (by simp) rfl (fun x _ => ⟨rfl, rfl, .o (.d (.bool true)), by simp [S.ev_call, L_int], rfl⟩) (Nat.le_trans hl (by decide)) rfl (fun _ _ => rfl)
  have hat : atI (PyData.int 0 :: r.map PyData.int) 0 = some (.int 0) := at_get (k := 0) rfl
  have c2 : (Ex.comp false (.cmp2 .le .le (.int 1) (.var 2) (.p2 .add (.var 1) (.int 1))) (.t [(.n 1), (.n 2)]) (.zip (.var 0) (.slL (.var 0) (.int 1))) .nil).ev (lev (n + 1)) cs0 [some (.d (enc (0 :: r))), none, none] = .ok (.o (.v (((0 :: r).zip r).map fun _ => .bool true)), [some (.d (enc (0 :: r))), none, none]) := by
    refine V.comp_map (m1 := [some (.d (enc (0 :: r))), none, none]) (fun p : Int × Int => .tuple [.int p.1, .int p.2]) ((0 :: r).zip r) [some (.d (enc (0 :: r))), none, none] (fun p => [some (.d (enc (0 :: r))), some (.d (.int p.1)), some (.d (.int p.2))]) (fun _ => .bool true) ?_ rfl (fun p hp => ⟨rfl, rfl, .o (.d (.bool true)), ?_, rfl⟩) ?_ rfl (fun _ _ => rfl)
    · have e1 : P.slice (some 1) none (.o (.d (enc (0 :: r)))) = .ok (.o (.d (.tuple (r.map .int)))) := by
        show Res.ok (Rv.o (.d (.tuple (P.slc _ _ _)))) = _
        rw [List.map_cons, slc1]
      have e2 : gZip ((Ex.cmp2 .le .le (.int 1) (.var 2) (.p2 .add (.var 1) (.int 1))).pu && Exs.nil.pu) [.o (.d (enc (0 :: r))), .o (.d (.tuple (r.map .int)))] = .ok (((0 :: r).zip r).map fun p => .tuple [.int p.1, .int p.2]) := by
        show Res.ok _ = _
        rw [zip_ints, List.map_map]
        rfl
      rw [S.evi_zip]
      simp only [S.ev_var, List.getElem?_cons_zero, S.vr_some, S.look_d, Res.bind_ok, S.ev_slL, S.ev_int, S.isB_o, Bool.false_and, Bool.false_eq_true, if_false, S.m_o, S.int_i, S.i3_some, e1, e2]
    · have p1 := stp_zip r 0 hs p hp
      have p2 := hr p.2 (List.of_mem_zip hp).2
      have p3 : p.2 ≤ p.1 + 1 := p1
      simp [p2, p3]
    · rw [List.length_zip]
      have : (0 :: r).length ≤ 1000 := hl
      show _ ≤ 16777216
      omega
  have a1 := all_map (0 :: r)
  have a2 := all_map ((0 :: r).zip r)
  generalize (0 :: r).map (fun _ => PyData.bool true) = xs at c1 a1
  generalize ((0 :: r).zip r).map (fun _ => PyData.bool true) = ys at c2 a2
  refine V.def_rt (m := [some (.d (enc (0 :: r))), none, none]) ?_ rfl
  refine V.seq_nx (m1 := [some (.d (enc (0 :: r))), none, none]) ?_ (V.seq_nx (m1 := [some (.d (enc (0 :: r))), none, none]) ?_ ?_)
  · show (St.ite _ _ _).run _ _ _ [some (.d (enc (0 :: r))), none, none] = _
    have e0 : ¬ (r.length : Int) + 1 = 0 := by omega
    simp [c1, a1, e0]
  · simp [hat]
  · simp [c2, a2]
end Oa

/-! Where each branch ends. -/
namespace Oa
open PySem PySem.Spec PyProof.Rows L2
def nD (n : Nat) : D := .int (n : Int)
def Up (t : Tr) (i p : Nat) : Prop := ∀ k d x, i < k → k < p → t[i]? = some d → t[k]? = some x → d < x
def Fin2 (t : Tr) (i j : Nat) : Prop := i < j ∧ j ≤ t.length ∧ Up t i j ∧ ∀ d x, t[i]? = some d → t[j]? = some x → x ≤ d
structure Inv (t : Tr) (p : Nat) (F W : List Nat) : Prop where
  len : F.length = t.length
  pw : W.Pairwise (· < ·)
  lt : ∀ i ∈ W, i < p
  up : ∀ i ∈ W, Up t i p ∧ F[i]? = some t.length
  fin : ∀ i, i < p → i ∉ W → ∃ j, F[i]? = some j ∧ Fin2 t i j
  rest : ∀ i, p ≤ i → i < t.length → F[i]? = some t.length
theorem Inv.start (t : Tr) : Inv t 0 (List.replicate t.length t.length) [] := ⟨List.length_replicate, .nil, fun _ h => by simp at h, fun _ h => by simp at h, fun _ h => by omega, fun i _ hi => by rw [List.getElem?_replicate, if_pos hi]⟩
theorem Inv.pop {t : Tr} {p w : Nat} {F W : List Nat} (h : Inv t p F (W ++ [w])) (hp : p < t.length) (hd : ∀ d x, t[w]? = some d → t[p]? = some x → x ≤ d) : Inv t p (F.set w p) W := by
  obtain ⟨h1, h2, h3, h4, h5, h6⟩ := h
  have hw := h3 w (List.mem_append_right _ List.mem_cons_self)
  obtain ⟨pw1, pw2, pw3⟩ := List.pairwise_append.mp h2
  refine ⟨by rw [List.length_set]; exact h1, pw1, fun i hi => h3 i (List.mem_append_left _ hi), fun i hi => ?_, fun i hi hn => ?_, fun i hi hl => ?_⟩
  · have := h4 i (List.mem_append_left _ hi)
    have hiw := pw3 i hi w List.mem_cons_self
    refine ⟨this.1, ?_⟩
    rw [List.getElem?_set_ne (by omega)]
    exact this.2
  · by_cases e : i = w
    · subst e
      refine ⟨p, ?_, hi, by omega, (h4 i (List.mem_append_right _ List.mem_cons_self)).1, hd⟩
      rw [List.getElem?_set_self (by omega)]
    · rw [List.getElem?_set_ne (by omega)]
      refine h5 i hi fun hm => ?_
      rcases List.mem_append.mp hm with hm | hm
      · exact hn hm
      · exact e (List.mem_singleton.mp hm)
  · rw [List.getElem?_set_ne (by omega)]
    exact h6 i hi hl
theorem Inv.push {t : Tr} {p : Nat} {F W : List Nat} (h : Inv t p F W) (hp : p < t.length) (hd : ∀ w ∈ W, ∀ d x, t[w]? = some d → t[p]? = some x → d < x) : Inv t (p + 1) F (W ++ [p]) := by
  obtain ⟨h1, h2, h3, h4, h5, h6⟩ := h
  refine ⟨h1, ?_, fun i hi => ?_, fun i hi => ?_, fun i hi hn => ?_, fun i hi hl => h6 i (by omega) hl⟩
  · refine List.pairwise_append.mpr ⟨h2, List.pairwise_singleton _ _, fun a ha b hb => ?_⟩
    rw [List.mem_singleton] at hb
    subst hb
    exact h3 a ha
  · rcases List.mem_append.mp hi with hi | hi
    · have := h3 i hi
      omega
    · rw [List.mem_singleton] at hi
      omega
  · rcases List.mem_append.mp hi with hj | hj
    · refine ⟨fun k d x hk hkp e1 e2 => ?_, (h4 i hj).2⟩
      by_cases e : k = p
      · rw [e] at e2
        exact hd i hj d x e1 e2
      · exact (h4 i hj).1 k d x hk (by omega) e1 e2
    · rw [List.mem_singleton] at hj
      subst hj
      exact ⟨fun k d x hk hkp => by omega, h6 i (Nat.le_refl _) hp⟩
  · refine h5 i ?_ fun hm => hn (List.mem_append_left _ hm)
    by_cases e : i = p
    · subst e
      exact absurd (List.mem_append_right _ List.mem_cons_self) hn
    · omega
theorem Inv.done {t : Tr} {F W : List Nat} (h : Inv t t.length F W) : F.length = t.length ∧ ∀ i j, F[i]? = some j → Fin2 t i j := by
  refine ⟨h.len, fun i j e => ?_⟩
  have hi : i < t.length := by
    rw [← h.len]
    exact (List.getElem?_eq_some_iff.mp e).1
  by_cases hm : i ∈ W
  · obtain ⟨h1, h2⟩ := h.up i hm
    rw [h2] at e
    cases e
    exact ⟨hi, Nat.le_refl _, h1, fun d x _ hx => by rw [List.getElem?_eq_none (Nat.le_refl _)] at hx; cases hx⟩
  · obtain ⟨j', h1, h2⟩ := h.fin i hi hm
    rw [h1] at e
    cases e
    exact h2
theorem last_cases (W : List Nat) : W = [] ∨ ∃ V w, W = V ++ [w] := by
  rcases List.eq_nil_or_concat W with h | ⟨V, w, h⟩
  · exact .inl h
  · exact .inr ⟨V, w, by rw [h]; simp⟩
theorem at_lastD {W : List Nat} {w : Nat} : atI ((W ++ [w]).map nD) (-1) = some (.int w) := by
  rw [at_last (by simp)]
  simp [nD]
theorem at_t {t : Tr} {i : Nat} {d : Int} (h : t[i]? = some d) : atI (t.map PyData.int) (i : Int) = some (.int d) := at_get (by rw [List.getElem?_map, h]; rfl)
theorem at_F {F : List Nat} {i j : Nat} (h : F[i]? = some j) : atI (F.map nD) (i : Int) = some (.int (j : Int)) := at_get (by rw [List.getElem?_map, h]; rfl)
theorem setTo_v {xs : List D} {i : Nat} {d : D} (h : i < xs.length) : setTo (.v xs) (i : Int) (.o (.d d)) = some (.v (xs.set i d)) := by
  show (match ixN xs.length (i : Int) with
    | some i => some (M.v (xs.set i d))
    | none => none) = _
  rw [ixN_nat h]
theorem ev_pop {cf : CfT} {cs : Str → Option D} {i : Nat} {m : Sl} {xs : List D} {d : D} (h : m[i]? = some (some (.v (xs ++ [d])))) : (Ex.pop i).ev cf cs m = .ok (.o (.d d), m.set i (some (.v xs))) := by
  show (match m[i]? with
    | some (some (.v xs)) => (match xs[xs.length - 1]? with
      | some d => Res.ok (Rv.p d, m.set i (some (.v xs.dropLast)))
      | none => Res.bad)
    | _ => Res.bad) = _
  rw [h]
  have e : (xs ++ [d])[(xs ++ [d]).length - 1]? = some d := by simp
  simp only [e, List.dropLast_concat]
theorem sorted_len : ∀ (l : List Nat) (a p : Nat), l.Pairwise (· < ·) → (∀ i ∈ l, a ≤ i ∧ i < p) → l.length ≤ p - a
  | [], _, _, _, _ => Nat.zero_le _
  | x :: l, a, p, h, g => by
    obtain ⟨h1, h2⟩ := List.pairwise_cons.mp h
    have h3 := g x List.mem_cons_self
    have := sorted_len l (x + 1) p h2 fun i hi => ⟨h1 i hi, (g i (List.mem_cons_of_mem _ hi)).2⟩
    rw [List.length_cons]
    omega
theorem mul_list {xs : List D} {k : Int} (h : k < 4611686018427387904 ∧ -4611686018427387904 < k ∧ xs.length * k.toNat ≤ big) : P.mul [.o (.v xs), .o (.d (.int k))] = .ok (.o (.v (List.replicate k.toNat xs).flatten)) := by
  show (if k < 4611686018427387904 ∧ -4611686018427387904 < k ∧ xs.length * k.toNat ≤ big then Res.ok (Rv.o (.v (List.replicate k.toNat xs).flatten)) else Res.bad) = _
  rw [if_pos h]
theorem flat_rep (k : Nat) (d : D) : (List.replicate k [d]).flatten = List.replicate k d := by
  induction k with
  | zero => rfl
  | succ k ih =>
    rw [List.replicate_succ, List.flatten_cons, ih]
    rfl
def wBody : Sts := Sts.forB ((Sts.forB (f_ends_of.body.tl.tl.hd)).hd)
def wCond : Ex := match (Sts.forB (f_ends_of.body.tl.tl.hd)).hd with
  | .whl c _ => c
  | _ => .non
theorem ends_while {n p : Nat} {t : Tr} {d : Int} (hp : t[p]? = some d) (hl : t.length ≤ 1000) {F W : List Nat} (h : Inv t p F W) : ∃ F' W', whlF (condF (wCond.ev (lev n) cs0)) (wBody.runs (lev n) cs0 fuel) fuel [some (.d (enc t)), some (.v (F.map nD)), some (.v (W.map nD)), some (.d (.int (p : Int))), some (.d (.int d))] = .ok (.nx [some (.d (enc t)), some (.v (F'.map nD)), some (.v (W'.map nD)), some (.d (.int (p : Int))), some (.d (.int d))]) ∧ Inv t p F' W' ∧ ∀ w ∈ W', ∀ d x, t[w]? = some d → t[p]? = some x → d < x := by
  have hpl : p < t.length := (List.getElem?_eq_some_iff.mp hp).1
  have hWl : W.length ≤ p := by
    exact sorted_len W 0 p h.pw fun i hi => ⟨Nat.zero_le _, h.lt i hi⟩
  obtain ⟨m', e, F', W', rfl, h1, h2⟩ := V.whl_inv (c := condF (wCond.ev (lev n) cs0)) (body := wBody.runs (lev n) cs0 fuel)
    (fun k s => ∃ F W : List Nat, s = [some (.d (enc t)), some (.v (F.map nD)), some (.v (W.map nD)), some (.d (.int (p : Int))), some (.d (.int d))] ∧ W.length = k ∧ Inv t p F W)
    (fun s => ∃ F W : List Nat, s = [some (.d (enc t)), some (.v (F.map nD)), some (.v (W.map nD)), some (.d (.int (p : Int))), some (.d (.int d))] ∧ Inv t p F W ∧ ∀ w ∈ W, ∀ d x, t[w]? = some d → t[p]? = some x → d < x) (by
    rintro k _ ⟨F, W, rfl, rfl, h⟩
    rcases last_cases W with rfl | ⟨U, w, rfl⟩
    · refine .inl ⟨_, ?_, F, [], rfl, h, fun w hw => by simp at hw⟩
      simp [S.cond_eq, wCond, f_ends_of, Sts.hd, Sts.tl, Sts.forB]
    · have hw := h.lt w (List.mem_append_right _ List.mem_cons_self)
      obtain ⟨dw, edw⟩ : ∃ dw, t[w]? = some dw := ⟨_, List.getElem?_eq_getElem (by omega)⟩
      have a1 := at_lastD (W := U) (w := w)
      have a2 := at_t edw
      have hpos : (0 : Int) < (((U ++ [w]).map nD).length : Nat) := by simp <;> omega
      have hc : condF (wCond.ev (lev n) cs0) [some (.d (enc t)), some (.v (F.map nD)), some (.v ((U ++ [w]).map nD)), some (.d (.int (p : Int))), some (.d (.int d))] = .ok (decide (d ≤ dw), [some (.d (enc t)), some (.v (F.map nD)), some (.v ((U ++ [w]).map nD)), some (.d (.int (p : Int))), some (.d (.int d))]) := by
        generalize (U ++ [w]).map nD = WW at a1 hpos
        have hpos2 : 0 < WW.length := by omega
        simp [S.cond_eq, wCond, f_ends_of, Sts.hd, Sts.tl, Sts.forB, a1, a2, hpos2]
      by_cases hd : d ≤ dw
      · refine .inr ⟨_, [some (.d (enc t)), some (.v ((F.set w p).map nD)), some (.v (U.map nD)), some (.d (.int (p : Int))), some (.d (.int d))], U.length, by rw [hc, decide_eq_true hd], ?_, by simp, F.set w p, U, rfl, rfl, h.pop hpl fun d' x e1 e2 => ?_⟩
        · have hF : w < (F.map nD).length := by
            rw [List.length_map, h.len]
            omega
          refine V.seq_nx (V.setI (r := .o (.d (.int (p : Int)))) (k := .v (F.map nD)) (k' := .v ((F.set w p).map nD)) (j := (w : Int)) (m1 := [some (.d (enc t)), some (.v (F.map nD)), some (.v ((U ++ [w]).map nD)), some (.d (.int (p : Int))), some (.d (.int d))]) (m2 := [some (.d (enc t)), some (.v (F.map nD)), some (.v (U.map nD)), some (.d (.int (p : Int))), some (.d (.int d))]) rfl rfl ?_ rfl rfl ?_) rfl
          · exact ev_pop (xs := U.map nD) (d := .int (w : Int)) (by rw [List.map_append] <;> rfl)
          · rw [setTo_v hF, List.map_set]
            rfl
        · rw [edw] at e1
          rw [hp] at e2
          cases e1
          cases e2
          exact hd
      · refine .inl ⟨_, by rw [hc, decide_eq_false hd], F, U ++ [w], rfl, h, fun i hi d' x e1 e2 => ?_⟩
        rw [hp] at e2
        cases e2
        rcases List.mem_append.mp hi with hi | hi
        · have hiw := (List.pairwise_append.mp h.pw).2.2 i hi w List.mem_cons_self
          have := (h.up i (List.mem_append_left _ hi)).1 w d' dw hiw hw e1 edw
          omega
        · rw [List.mem_singleton] at hi
          subst hi
          rw [edw] at e1
          cases e1
          omega) fuel W.length [some (.d (enc t)), some (.v (F.map nD)), some (.v (W.map nD)), some (.d (.int (p : Int))), some (.d (.int d))] (by show W.length < 100000; omega) ⟨F, W, rfl, rfl, h⟩
  exact ⟨F', W', e, h1, h2⟩
/-- what enumerate gives, from a place on -/
def enumD (u : List Int) (p : Nat) : List D := ((u.map PyData.int).zipIdx p).map fun q => .tuple [.int (q.2 : Nat), q.1]
theorem enumD_cons (d : Int) (u : List Int) (p : Nat) : enumD (d :: u) p = .tuple [.int (p : Int), .int d] :: enumD u (p + 1) := rfl
theorem drop_cons {t : Tr} {p : Nat} {d : Int} {u : List Int} (h : t.drop p = d :: u) : t[p]? = some d ∧ t.drop (p + 1) = u := by
  refine ⟨?_, ?_⟩
  · have := congrArg (·[0]?) h
    simpa using this
  · have := congrArg List.tail h
    simpa using this
theorem ends_for {n : Nat} {t : Tr} (hl : t.length ≤ 1000) : ∀ (u : List Int) (p : Nat) (F W : List Nat) (x y : Option M), t.drop p = u → p ≤ t.length → Inv t p F W → ∃ F' W' x' y', forF (.t [.n 3, .n 4]) ((Sts.forB (f_ends_of.body.tl.tl.hd)).runs (lev n) cs0 fuel) (enumD u p) [some (.d (enc t)), some (.v (F.map nD)), some (.v (W.map nD)), x, y] = .ok (.nx [some (.d (enc t)), some (.v (F'.map nD)), some (.v (W'.map nD)), x', y']) ∧ Inv t t.length F' W'
  | [], p, F, W, x, y, hu, hp, h => by
    have : p = t.length := by
      have := congrArg List.length hu
      simp at this
      omega
    subst this
    exact ⟨F, W, x, y, rfl, h⟩
  | d :: u, p, F, W, x, y, hu, hp, h => by
    obtain ⟨e1, e2⟩ := drop_cons hu
    have hpl : p < t.length := (List.getElem?_eq_some_iff.mp e1).1
    obtain ⟨F1, W1, ew, i1, i2⟩ := ends_while (n := n) e1 hl h
    obtain ⟨F', W', x', y', e, i3⟩ := ends_for hl (n := n) u (p + 1) F1 (W1 ++ [p]) (some (.d (.int (p : Int)))) (some (.d (.int d))) e2 hpl (i1.push hpl i2)
    refine ⟨F', W', x', y', ?_, i3⟩
    rw [enumD_cons]
    refine V.for_cons (m1 := [some (.d (enc t)), some (.v (F.map nD)), some (.v (W.map nD)), some (.d (.int (p : Int))), some (.d (.int d))]) rfl (V.seq_nx (V.whl ew) (V.seq_nx (V.app (k0 := .v (W1.map nD)) (k := .v (W1.map nD)) (k' := .v ((W1 ++ [p]).map nD)) (r := .o (.d (.int (p : Int)))) (m1 := [some (.d (enc t)), some (.v (F1.map nD)), some (.v (W1.map nD)), some (.d (.int (p : Int))), some (.d (.int d))]) rfl rfl rfl rfl ?_) rfl)) e
    have hW : W1.length < 1000000 := by
      have := sorted_len W1 0 p i1.pw fun i hi => ⟨Nat.zero_le _, i1.lt i hi⟩
      omega
    rw [addTo_v (by rw [List.length_map]; exact hW), List.map_append]
    rfl
theorem L_ends {n : Nat} {t : Tr} (hl : t.length ≤ 1000) : ∃ F : List Nat, lev (n + 1) "ends_of" [.d (enc t)] = .ok (.o (.v (F.map nD)), [.d (enc t)]) ∧ F.length = t.length ∧ ∀ i j, F[i]? = some j → Fin2 t i j := by
  rw [lv_ends_of]
  obtain ⟨F, W, x, y, e, h⟩ := ends_for (n := n) hl t 0 (List.replicate t.length t.length) [] none none rfl (Nat.zero_le _) (Inv.start t)
  refine ⟨F, V.def_rt (m := [some (.d (enc t)), none, some (.v (W.map nD)), x, y]) ?_ rfl, h.done⟩
  have hm : P.mul [.o (.v [.int (t.length : Nat)]), .o (.d (.int (t.length : Nat)))] = .ok (.o (.v ((List.replicate t.length t.length).map nD))) := by
    rw [mul_list ⟨by omega, by omega, by rw [Int.toNat_natCast]; show 1 * t.length ≤ 16777216; omega⟩, Int.toNat_natCast, flat_rep, List.map_replicate]
    rfl
  refine V.seq_nx (V.set (r := .o (.v ((List.replicate t.length t.length).map nD))) (m1 := [some (.d (enc t)), none, none, none, none]) (m2 := [some (.d (enc t)), some (.v ((List.replicate t.length t.length).map nD)), none, none, none]) ?_ rfl rfl) ?_
  · show Ex.ev _ _ _ [some (.d (enc t)), none, none, none, none] = _
    refine V.p2 (r := .o (.v [.int (t.length : Nat)])) (q := .o (.d (.int (t.length : Nat)))) (m1 := [some (.d (enc t)), none, none, none, none]) ?_ ?_ rfl hm
    · simp
    · simp
  refine V.seq_nx (V.set (r := .o (.v [])) (m1 := [some (.d (enc t)), some (.v ((List.replicate t.length t.length).map nD)), none, none, none]) (m2 := [some (.d (enc t)), some (.v ((List.replicate t.length t.length).map nD)), some (.v []), none, none]) rfl rfl rfl) ?_
  refine V.seq_nx (V.forS (ds := enumD t 0) (m1 := [some (.d (enc t)), some (.v ((List.replicate t.length t.length).map nD)), some (.v []), none, none]) ?_ e) ?_
  · simp [enumD]
  · simp
end Oa

/-! In form. -/
namespace Oa
open PySem PySem.Spec PyProof.Rows L2
theorem allSuf_drop : ∀ {t : List Int} {i : Nat} {d : Int}, AllSuf [] t → t[i]? = some d → Pf0 (d :: t.drop (i + 1))
  | [], _, _, _, h => by simp at h
  | x :: l, 0, d, h, e => by
    simp at e
    subst e
    have := h.1
    rw [List.cons_append, List.append_nil] at this
    simpa using this
  | x :: l, i + 1, d, h, e => by
    have := allSuf_drop (i := i) (d := d) h.2 (by simpa using e)
    simpa using this
theorem tw_take {d : Int} : ∀ {l : List Int} {m : Nat}, m ≤ l.length → (∀ k x, k < m → l[k]? = some x → d < x) → (∀ x, l[m]? = some x → x ≤ d) → l.takeWhile (fun x => decide (d < x)) = l.take m ∧ l.dropWhile (fun x => decide (d < x)) = l.drop m
  | [], m, hm, _, _ => by simp
  | x :: l, 0, _, _, h => by
    have := h x rfl
    simp [List.takeWhile, List.dropWhile, Int.not_lt.mpr this]
  | x :: l, m + 1, hm, h1, h2 => by
    have hx := h1 0 x (by omega) rfl
    obtain ⟨e1, e2⟩ := tw_take (d := d) (l := l) (m := m) (by simpa using hm) (fun k y hk e => h1 (k + 1) y (by omega) (by simpa using e)) (fun y e => h2 y (by simpa using e))
    simp [List.takeWhile, List.dropWhile, hx, e1, e2]
theorem drop_get {t : List Int} {i : Nat} {d : Int} (h : t[i]? = some d) : t.drop i = d :: t.drop (i + 1) := by
  obtain ⟨hi, e⟩ := List.getElem?_eq_some_iff.mp h
  rw [← e, List.drop_eq_getElem_cons hi]
theorem fin_tw {t : List Int} {i j : Nat} {d : Int} (h : Fin2 t i j) (e : t[i]? = some d) : (t.drop (i + 1)).takeWhile (fun x => decide (d < x)) = (t.drop (i + 1)).take (j - i - 1) ∧ (t.drop (i + 1)).dropWhile (fun x => decide (d < x)) = t.drop j := by
  obtain ⟨h1, h2, h3, h4⟩ := h
  have := tw_take (d := d) (l := t.drop (i + 1)) (m := j - i - 1) (by rw [List.length_drop]; omega) (fun k x hk ex => by
    rw [List.getElem?_drop] at ex
    exact h3 (i + 1 + k) d x (by omega) (by omega) e ex) (fun x ex => by
    rw [List.getElem?_drop, show i + 1 + (j - i - 1) = j by omega] at ex
    exact h4 d x e ex)
  rw [List.drop_drop, show i + 1 + (j - i - 1) = j by omega] at this
  exact this
/-- no branch stands ahead of a greater one -/
theorem form_at {t : List Int} (h : AllSuf [] t) {i j l : Nat} {d : Int} (e : t[i]? = some d) (f : Fin2 t i j) (ej : t[j]? = some d) (g : Fin2 t j l) : ¬ (t.drop i).take (j - i) < (t.drop j).take (l - j) := by
  have h1 := allSuf_drop h e
  rw [pf0_cons] at h1
  obtain ⟨a1, a2⟩ := fin_tw f e
  obtain ⟨b1, _⟩ := fin_tw g ej
  rw [a1, a2, drop_get ej] at h1
  have h2 := h1 rfl
  rw [b1] at h2
  rw [drop_get e, drop_get ej]
  have f1 := f.1
  have g1 := g.1
  rw [show j - i = (j - i - 1) + 1 by omega, show l - j = (l - j - 1) + 1 by omega]
  exact h2
theorem slc_enc {t : Tr} {i j : Nat} (h : i ≤ j) (hj : j ≤ t.length) : PyData.tuple (P.slc (t.map PyData.int) (some (i : Int)) (some (j : Int))) = enc ((t.drop i).take (j - i)) := by
  rw [slcB _ h (by rw [List.length_map]; exact hj), ← List.map_drop, ← List.map_take]
  rfl
def fBody : Sts := Sts.forB (f_is_in_form.body.tl.hd)
theorem form_for {n : Nat} {t : Tr} (hs : AllSuf [] t) {F : List Nat} (hF : F.length = t.length) (hfin : ∀ i j, F[i]? = some j → Fin2 t i j) : ∀ (u : List Int) (p : Nat) (x y z : Option M), t.drop p = u → ∃ m', forF (.t [.n 2, .n 3]) (fBody.runs (lev n) cs0 fuel) (enumD u p) [some (.d (enc t)), some (.v (F.map nD)), x, y, z] = .ok (.nx m') ∧ ∃ x' y' z', m' = [some (.d (enc t)), some (.v (F.map nD)), x', y', z']
  | [], p, x, y, z, hu => ⟨_, rfl, x, y, z, rfl⟩
  | d :: u, p, x, y, z, hu => by
    obtain ⟨e1, e2⟩ := drop_cons hu
    have hpl : p < t.length := (List.getElem?_eq_some_iff.mp e1).1
    obtain ⟨j, ej⟩ : ∃ j, F[p]? = some j := ⟨_, List.getElem?_eq_getElem (by omega)⟩
    have f := hfin p j ej
    obtain ⟨m', e, hm⟩ := form_for (n := n) hs hF hfin u (p + 1) (some (.d (.int (p : Int)))) (some (.d (.int d))) (some (.d (.int (j : Int)))) e2
    refine ⟨m', ?_, hm⟩
    rw [enumD_cons]
    refine V.for_cons (m1 := [some (.d (enc t)), some (.v (F.map nD)), some (.d (.int (p : Int))), some (.d (.int d)), z]) rfl ?_ e
    have a1 := at_F ej
    have hset : (fBody.hd).run (lev n) cs0 fuel [some (.d (enc t)), some (.v (F.map nD)), some (.d (.int (p : Int))), some (.d (.int d)), z] = .ok (.nx [some (.d (enc t)), some (.v (F.map nD)), some (.d (.int (p : Int))), some (.d (.int d)), some (.d (.int (j : Int)))]) := by
      simp [fBody, f_is_in_form, Sts.hd, Sts.tl, Sts.forB, a1]
    refine V.seq_nx hset ?_
    by_cases hj : j < t.length
    · obtain ⟨ev, ee⟩ : ∃ ev, t[j]? = some ev := ⟨_, List.getElem?_eq_getElem hj⟩
      have a2 := at_t ee
      by_cases hd : ev = d
      · subst hd
        obtain ⟨l, el⟩ : ∃ l, F[j]? = some l := ⟨_, List.getElem?_eq_getElem (by omega)⟩
        have g := hfin j l el
        have a3 := at_F el
        have s1 : P.slice (some (p : Int)) (some (j : Int)) (.o (.d (enc t))) = .ok (.o (.d (enc ((t.drop p).take (j - p))))) := by
          show Res.ok (Rv.o (.d (.tuple (P.slc _ _ _)))) = _
          rw [slc_enc (Nat.le_of_lt f.1) f.2.1]
        have s2 : P.slice (some (j : Int)) (some (l : Int)) (.o (.d (enc t))) = .ok (.o (.d (enc ((t.drop j).take (l - j))))) := by
          show Res.ok (Rv.o (.d (.tuple (P.slc _ _ _)))) = _
          rw [slc_enc (Nat.le_of_lt g.1) g.2.1]
        have nl := form_at hs e1 f ee g
        simp [S.intF_eq, hj, a2, s1, s2, a3, nl]
      · simp [hj, a2, hd]
    · simp [hj]
theorem L_form {n : Nat} {t : Tr} (h : Good t) (hl : t.length ≤ 1000) : lev (n + 2) "is_in_form" [.d (enc t)] = .ok (.o (.d (.bool true)), [.d (enc t)]) := by
  rw [lv_is_in_form]
  obtain ⟨F, eF, hF, hfin⟩ := L_ends (n := n) hl
  obtain ⟨m', e, x, y, z, rfl⟩ := form_for (n := n + 1) h.inForm0 hF hfin t 0 none none none rfl
  refine V.def_rt (m := [some (.d (enc t)), some (.v (F.map nD)), x, y, z]) ?_ rfl
  refine V.seq_nx (V.set (r := .o (.v (F.map nD))) (m1 := [some (.d (enc t)), none, none, none, none]) (m2 := [some (.d (enc t)), some (.v (F.map nD)), none, none, none]) ?_ rfl rfl) ?_
  · show Ex.ev _ _ _ [some (.d (enc t)), none, none, none, none] = _
    exact S.call_d rfl eF
  refine V.seq_nx (V.forS (ds := enumD t 0) (m1 := [some (.d (enc t)), some (.v (F.map nD)), none, none, none]) ?_ e) ?_
  · simp [enumD]
  · simp
theorem L_isT {n : Nat} {t : Tr} (h : Good t) (hl : t.length ≤ 1000) : lev (n + 3) "is_tree" [.d (enc t)] = .ok (.o (.d (.bool true)), [.d (enc t)]) := by
  rw [lv_is_tree]
  refine V.def_rt (m := [some (.d (enc t))]) ?_ rfl
  have c1 : (Ex.call "is_depth_row" (.r (.var 0) .nil)).ev (lev (n + 2)) cs0 [some (.d (enc t))] = .ok (.o (.d (.bool true)), [some (.d (enc t))]) := S.call_d rfl (L_depth h hl)
  have c2 : (Ex.call "is_in_form" (.r (.var 0) .nil)).ev (lev (n + 2)) cs0 [some (.d (enc t))] = .ok (.o (.d (.bool true)), [some (.d (enc t))]) := S.call_d rfl (L_form h hl)
  exact V.seq_rt (V.ret (V.and_t c1 c2) rfl)
end Oa

namespace Oa
/-! Rows turned, rows repeated: the mathematics, no program in sight. -/
section
variable {α : Type}
def rot (k : Nat) (p : List α) : List α := p.drop k ++ p.take k
def rep (k : Nat) (p : List α) : List α := (List.replicate k p).flatten
theorem rot_zero (p : List α) : rot 0 p = p := by simp [rot]
theorem rot_len (k : Nat) (p : List α) : (rot k p).length = p.length := by
  unfold rot
  rw [List.length_append, List.length_drop, List.length_take]
  omega
theorem rep_zero (p : List α) : rep 0 p = [] := rfl
theorem rep_succ (k : Nat) (p : List α) : rep (k + 1) p = p ++ rep k p := by
  unfold rep
  rw [List.replicate_succ, List.flatten_cons]
theorem rep_one (p : List α) : rep 1 p = p := by rw [rep_succ, rep_zero, List.append_nil]
theorem rep_len (k : Nat) (p : List α) : (rep k p).length = k * p.length := by
  induction k with
  | zero => simp [rep_zero]
  | succ k ih => rw [rep_succ, List.length_append, ih, Nat.succ_mul, Nat.add_comm]
theorem rep_add (j k : Nat) (p : List α) : rep (j + k) p = rep j p ++ rep k p := by
  induction j with
  | zero => rw [Nat.zero_add, rep_zero, List.nil_append]
  | succ j ih => rw [Nat.succ_add, rep_succ, rep_succ, ih, List.append_assoc]
theorem rep_rep (j k : Nat) (p : List α) : rep j (rep k p) = rep (j * k) p := by
  induction j with
  | zero => rw [Nat.zero_mul, rep_zero, rep_zero]
  | succ j ih => rw [rep_succ, ih, Nat.succ_mul, Nat.add_comm, rep_add]
/-- the place counted round -/
theorem rep_get {k i : Nat} {p : List α} (h : i < k * p.length) : (rep k p)[i]? = p[i % p.length]? := by
  induction k generalizing i with
  | zero => omega
  | succ k ih =>
    rw [rep_succ]
    by_cases hi : i < p.length
    · rw [List.getElem?_append_left hi, Nat.mod_eq_of_lt hi]
    · rw [List.getElem?_append_right (by omega), ih (by rw [Nat.succ_mul] at h; omega), ← Nat.mod_eq_sub_mod (by omega)]
theorem rot_get {k i : Nat} {p : List α} (hk : k ≤ p.length) (hi : i < p.length) : (rot k p)[i]? = p[(i + k) % p.length]? := by
  unfold rot
  by_cases h : i < p.length - k
  · rw [List.getElem?_append_left (by rw [List.length_drop]; exact h), List.getElem?_drop, Nat.mod_eq_of_lt (by omega), Nat.add_comm]
  · rw [List.getElem?_append_right (by rw [List.length_drop]; omega), List.length_drop, List.getElem?_take, if_pos (by omega)]
    congr 1
    rw [Nat.mod_eq_sub_mod (by omega), Nat.mod_eq_of_lt (by omega)]
    omega
theorem ext_len {p q : List α} (h : p.length = q.length) (g : ∀ i, i < p.length → p[i]? = q[i]?) : p = q := by
  refine List.ext_getElem? fun i => ?_
  by_cases hi : i < p.length
  · exact g i hi
  · rw [List.getElem?_eq_none (by omega), List.getElem?_eq_none (by omega)]
theorem rot_rot {j k : Nat} {p : List α} (hj : j ≤ p.length) (hk : k ≤ p.length) (hp : 0 < p.length) : rot j (rot k p) = rot ((j + k) % p.length) p := by
  have hm := Nat.mod_lt (j + k) hp
  refine ext_len (by rw [rot_len, rot_len, rot_len]) fun i hi => ?_
  rw [rot_len, rot_len] at hi
  rw [rot_get (by rw [rot_len]; exact hj) (by rw [rot_len]; exact hi), rot_len, rot_get hk (Nat.mod_lt _ hp), rot_get (Nat.le_of_lt hm) hi]
  congr 1
  rw [Nat.mod_add_mod, Nat.add_mod_mod, Nat.add_assoc]
theorem rot_rep {j k : Nat} {p : List α} (hj : j < k * p.length) : rot j (rep k p) = rep k (rot (j % p.length) p) := by
  have hp : 0 < p.length := by
    rcases Nat.eq_zero_or_pos p.length with h | h
    · rw [h] at hj
      omega
    · exact h
  have hm := Nat.mod_lt j hp
  refine ext_len (by rw [rot_len, rep_len, rep_len, rot_len]) fun i hi => ?_
  rw [rot_len, rep_len] at hi
  rw [rot_get (by rw [rep_len]; omega) (by rw [rep_len]; exact hi), rep_len, rep_get (Nat.mod_lt _ (by omega)), rep_get (by rw [rot_len]; exact hi), rot_len, rot_get (Nat.le_of_lt hm) (Nat.mod_lt _ hp)]
  congr 1
  rw [Nat.mod_mul_left_mod, Nat.add_mod]
/-! ### what makes the row when repeated -/
/-- the first d of it, so often that it is as long -/
def Per (p : List α) (d : Nat) : Prop := p.length % d = 0 ∧ rep (p.length / d) (p.take d) = p
theorem per_self {p : List α} (h : 0 < p.length) : Per p p.length := by
  refine ⟨Nat.mod_self _, ?_⟩
  rw [Nat.div_self h, rep_one, List.take_length]
/-- the same, by places counted round -/
def Sft (p : List α) (d : Nat) : Prop := ∀ i, p[(i + d) % p.length]? = p[i % p.length]?
theorem per_get {p : List α} {d : Nat} (hd : 0 < d) (h : Per p d) {i : Nat} (hi : i < p.length) : p[i]? = p[i % d]? := by
  obtain ⟨h1, h2⟩ := h
  have hdl : d ≤ p.length := Nat.le_of_dvd (by omega) (Nat.dvd_of_mod_eq_zero h1)
  have hl : (p.take d).length = d := by rw [List.length_take]; omega
  have hm := Nat.mod_lt i hd
  have : (rep (p.length / d) (p.take d))[i]? = (p.take d)[i % (p.take d).length]? := rep_get (by rw [hl, Nat.div_mul_cancel (Nat.dvd_of_mod_eq_zero h1)]; exact hi)
  rw [h2, hl, List.getElem?_take, if_pos hm] at this
  exact this
theorem per_sft {p : List α} {d : Nat} (hd : 0 < d) (hp : 0 < p.length) (h : Per p d) : Sft p d := by
  intro i
  have hdv := Nat.dvd_of_mod_eq_zero h.1
  rw [per_get hd h (Nat.mod_lt _ hp), per_get hd h (Nat.mod_lt i hp), Nat.mod_mod_of_dvd _ hdv, Nat.mod_mod_of_dvd _ hdv, Nat.add_mod_right]
theorem sft_mul {p : List α} {d : Nat} (h : Sft p d) : ∀ k, Sft p (k * d)
  | 0 => fun i => by rw [Nat.zero_mul, Nat.add_zero]
  | k + 1 => fun i => by
    rw [Nat.succ_mul, ← Nat.add_assoc, h, sft_mul h k]
theorem sft_sub {p : List α} {a b : Nat} (ha : Sft p a) (hb : Sft p b) (h : a ≤ b) : Sft p (b - a) := by
  intro i
  rw [← ha (i + (b - a)), show i + (b - a) + a = i + b by omega, hb]
theorem sft_mod {p : List α} {a b : Nat} (ha : Sft p a) (hb : Sft p b) : Sft p (b % a) := by
  have h := sft_sub (sft_mul ha (b / a)) hb (Nat.div_mul_le_self b a)
  rw [Nat.mod_eq_sub_mul_div, Nat.mul_comm]
  exact h
theorem sft_gcd {p : List α} : ∀ a b : Nat, Sft p a → Sft p b → Sft p (Nat.gcd a b) := by
  intro a b
  induction a, b using Nat.gcd.induction with
  | H0 n => intro _ hb; rw [Nat.gcd_zero_left]; exact hb
  | H1 m n _ ih =>
    intro ha hb
    rw [Nat.gcd_rec]
    exact ih (sft_mod ha hb) ha
theorem sft_per {p : List α} {d : Nat} (hd : 0 < d) (hdv : d ∣ p.length) (h : Sft p d) : Per p d := by
  refine ⟨Nat.mod_eq_zero_of_dvd hdv, ?_⟩
  rcases Nat.eq_zero_or_pos p.length with h0 | hp
  · rw [List.length_eq_zero_iff.mp h0]
    simp [rep_zero]
  have hdl : d ≤ p.length := Nat.le_of_dvd hp hdv
  have hl : (p.take d).length = d := by rw [List.length_take]; omega
  refine ext_len (by rw [rep_len, hl, Nat.div_mul_cancel hdv]) fun i hi => ?_
  rw [rep_len, hl, Nat.div_mul_cancel hdv] at hi
  rw [rep_get (by rw [hl, Nat.div_mul_cancel hdv]; exact hi), hl, List.getElem?_take, if_pos (Nat.mod_lt _ hd)]
  have h1 := sft_mul h (i / d) (i % d)
  have h2 : i % d + i / d * d = i := Nat.mod_add_div' i d
  have h3 := Nat.mod_lt i hd
  rw [h2, Nat.mod_eq_of_lt hi, Nat.mod_eq_of_lt (by omega : i % d < p.length)] at h1
  exact h1.symm
/-- the least one -/
def Root (p : List α) (d : Nat) : Prop := 0 < d ∧ Per p d ∧ ∀ e, 0 < e → e < d → ¬ Per p e
theorem root_dvd {p : List α} {d e : Nat} (hp : 0 < p.length) (h : Root p d) (he : 0 < e) (hs : Sft p e) : d ∣ e := by
  obtain ⟨h1, h2, h3⟩ := h
  have hg : Sft p (Nat.gcd d e) := sft_gcd d e (per_sft h1 hp h2) hs
  have hg0 : 0 < Nat.gcd d e := Nat.gcd_pos_of_pos_left _ h1
  have hdv : Nat.gcd d e ∣ p.length := Nat.dvd_trans (Nat.gcd_dvd_left d e) (Nat.dvd_of_mod_eq_zero h2.1)
  have hle := Nat.le_of_dvd h1 (Nat.gcd_dvd_left d e)
  by_cases hlt : Nat.gcd d e < d
  · exact absurd (sft_per hg0 hdv hg) (h3 _ hg0 hlt)
  · have : Nat.gcd d e = d := by omega
    rw [← this]
    exact Nat.gcd_dvd_right d e
theorem root_uniq {p : List α} {d e : Nat} (h : Root p d) (g : Root p e) : d = e := by
  rcases Nat.lt_trichotomy d e with hl | hl | hl
  · exact absurd h.2.1 (g.2.2 d h.1 hl)
  · exact hl
  · exact absurd g.2.1 (h.2.2 e g.1 hl)
theorem take_rep {p : List α} {k d : Nat} (hk : 0 < k) (hd : d ≤ p.length) : (rep k p).take d = p.take d := by
  obtain ⟨j, rfl⟩ : ∃ j, k = j + 1 := ⟨k - 1, by omega⟩
  rw [rep_succ, List.take_append_of_le_length hd]
/-- a repeated row has its root -/
theorem root_rep {p : List α} {k d : Nat} (hk : 0 < k) (hp : 0 < p.length) (h : Root p d) : Root (rep k p) d := by
  obtain ⟨h1, h2, h3⟩ := h
  have hd1 : d ∣ p.length := Nat.dvd_of_mod_eq_zero h2.1
  have hdl : d ≤ p.length := Nat.le_of_dvd hp hd1
  have hkp : 0 < (rep k p).length := by rw [rep_len]; exact Nat.mul_pos hk hp
  have hper : Per (rep k p) d := by
    refine ⟨?_, ?_⟩
    · rw [rep_len]
      exact Nat.mod_eq_zero_of_dvd (Nat.dvd_trans hd1 (Nat.dvd_mul_left _ _))
    · rw [rep_len, take_rep hk hdl, Nat.mul_div_assoc _ hd1, ← rep_rep, h2.2]
  -- the least one of the repeated row parts p's length
  have ex : ∃ m, Root (rep k p) m := by
    have : ∀ n, (∃ e, 0 < e ∧ e ≤ n ∧ Per (rep k p) e) → ∃ m, Root (rep k p) m := by
      intro n
      induction n with
      | zero => rintro ⟨e, e0, e1, _⟩; omega
      | succ n ih =>
        rintro ⟨e, e0, e1, e2⟩
        by_cases hx : ∃ e, 0 < e ∧ e ≤ n ∧ Per (rep k p) e
        · exact ih hx
        · refine ⟨e, e0, e2, fun f f0 f1 f2 => hx ⟨f, f0, by omega, f2⟩⟩
    exact this d ⟨d, h1, Nat.le_refl _, hper⟩
  obtain ⟨m, hm⟩ := ex
  have hSp : Sft (rep k p) p.length := by
    refine per_sft hp hkp ⟨?_, ?_⟩
    · rw [rep_len]
      exact Nat.mul_mod_left _ _
    · rw [rep_len, Nat.mul_div_cancel _ hp, take_rep hk (Nat.le_refl _), List.take_length]
  have hmd : m ∣ p.length := root_dvd hkp hm hp hSp
  have hml : m ≤ p.length := Nat.le_of_dvd hp hmd
  have hpm : Per p m := by
    refine ⟨Nat.mod_eq_zero_of_dvd hmd, ?_⟩
    have e1 := hm.2.1.2
    rw [take_rep hk hml, rep_len, Nat.mul_div_assoc _ hmd, ← rep_rep] at e1
    have e2 := congrArg (List.take p.length) e1
    have hlen : (rep (p.length / m) (p.take m)).length = p.length := by
      rw [rep_len, List.length_take, Nat.min_eq_left hml, Nat.div_mul_cancel hmd]
    have e3 : (rep k (rep (p.length / m) (p.take m))).take p.length = rep (p.length / m) (p.take m) := by
      rw [take_rep hk (by omega)]
      exact List.take_of_length_le (by omega)
    rw [e3, take_rep hk (Nat.le_refl _), List.take_length] at e2
    exact e2
  have hdm : d ≤ m := by
    by_cases hlt : m < d
    · exact absurd hpm (h3 m hm.1 hlt)
    · omega
  have : m ≤ d := by
    by_cases hlt : d < m
    · exact absurd hper (hm.2.2 d h1 hlt)
    · omega
  have : m = d := by omega
  rw [← this]
  exact hm
/-- the root's root is the whole root -/
theorem root_root {p : List α} {d : Nat} (hp : 0 < p.length) (h : Root p d) : Root (p.take d) d := by
  obtain ⟨h1, h2, h3⟩ := h
  have hd1 : d ∣ p.length := Nat.dvd_of_mod_eq_zero h2.1
  have hdl : d ≤ p.length := Nat.le_of_dvd hp hd1
  have hl : (p.take d).length = d := by rw [List.length_take]; omega
  refine ⟨h1, ?_, fun e e0 e1 e2 => h3 e e0 e1 ?_⟩
  · have := per_self (p := p.take d) (by omega)
    rw [hl] at this
    exact this
  · obtain ⟨g1, g2⟩ := e2
    rw [hl] at g1 g2
    have hed : e ∣ d := Nat.dvd_of_mod_eq_zero g1
    have hep : e ∣ p.length := Nat.dvd_trans hed hd1
    refine ⟨Nat.mod_eq_zero_of_dvd hep, ?_⟩
    rw [List.take_take, Nat.min_eq_left (by omega)] at g2
    have e3 : p.length / e = p.length / d * (d / e) := by
      obtain ⟨a, ha⟩ := hd1
      obtain ⟨b, hb⟩ := hed
      rw [ha, Nat.mul_div_cancel_left _ h1]
      rw [hb, Nat.mul_div_cancel_left _ e0, Nat.mul_assoc, Nat.mul_div_cancel_left _ e0, Nat.mul_comm]
    rw [e3, ← rep_rep, g2, h2.2]
end
/-! ### the order of rows of one length -/
section
variable {α : Type} [DecidableEq α] [LT α]
theorem lt_app : ∀ {a b x y : List α}, a.length = b.length → a < b → a ++ x < b ++ y
  | [], [], _, _, _, h => by simp at h
  | [], _ :: _, _, _, e, _ => by simp at e
  | _ :: _, [], _, _, e, _ => by simp at e
  | u :: a, v :: b, x, y, e, h => by
    simp only [List.cons_append]
    rcases List.cons_lt_cons_iff.mp h with h | ⟨h1, h2⟩
    · exact List.cons_lt_cons_iff.mpr (.inl h)
    · exact List.cons_lt_cons_iff.mpr (.inr ⟨h1, lt_app (by simpa using e) h2⟩)
end
abbrev Pc := List Tr
theorem pc_tot {a b : Pc} (h : ¬ a < b) : a = b ∨ b < a := by
  by_cases g : b < a
  · exact .inr g
  · exact .inl (List.le_antisymm (α := Tr) g h)
theorem rep_lt {a b : Pc} {k : Nat} (e : a.length = b.length) (h : a < b) (hk : 0 < k) : rep k a < rep k b := by
  obtain ⟨j, rfl⟩ : ∃ j, k = j + 1 := ⟨k - 1, by omega⟩
  rw [rep_succ, rep_succ]
  exact lt_app e h
/-- no turning is less -/
def Least (p : Pc) : Prop := ∀ k, k < p.length → ¬ rot k p < p
theorem least_rep {p : Pc} (h : Least p) (k : Nat) : Least (rep k p) := by
  intro j hj
  rw [rep_len] at hj
  rw [rot_rep hj]
  have hp : 0 < p.length := by
    rcases Nat.eq_zero_or_pos p.length with h | h
    · rw [h] at hj
      omega
    · exact h
  have hk : 0 < k := by
    rcases Nat.eq_zero_or_pos k with h | h
    · rw [h] at hj
      omega
    · exact h
  rcases pc_tot (h (j % p.length) (Nat.mod_lt _ hp)) with e | e
  · rw [e]
    exact List.lt_irrefl _
  · exact List.lt_asymm (rep_lt (by rw [rot_len]) e hk)
theorem least_of_rep {p : Pc} {k : Nat} (hk : 0 < k) (h : Least (rep k p)) : Least p := by
  intro j hj hlt
  have hjk : j < k * p.length := Nat.lt_of_lt_of_le hj (Nat.le_mul_of_pos_left _ hk)
  have := h j (by rw [rep_len]; exact hjk)
  rw [rot_rep hjk, Nat.mod_eq_of_lt hj] at this
  exact this (rep_lt (by rw [rot_len]) hlt hk)
theorem least_root {p : Pc} {d : Nat} (hp : 0 < p.length) (h : Root p d) (g : Least p) : Least (p.take d) := by
  obtain ⟨h1, h2, _⟩ := h
  have hd1 : d ∣ p.length := Nat.dvd_of_mod_eq_zero h2.1
  have hdl : d ≤ p.length := Nat.le_of_dvd hp hd1
  refine least_of_rep (k := p.length / d) (Nat.div_pos hdl h1) ?_
  rw [h2.2]
  exact g
/-- the least turning -/
theorem least_rot {p : Pc} {k : Nat} (hk : k < p.length) (h : ∀ j, j < p.length → ¬ rot j p < rot k p) : Least (rot k p) := by
  intro j hj
  rw [rot_len] at hj
  rw [rot_rot (Nat.le_of_lt hj) (Nat.le_of_lt hk) (by omega)]
  exact h _ (Nat.mod_lt _ (by omega))
end Oa

/-! Rows of trees as data. -/
namespace Oa
open PySem PySem.Spec PyProof.Rows L2
theorem eqv_ints : ∀ a b : Tr, PyData.eqvAll (a.map .int) (b.map .int) = decide (a = b)
  | [], [] => by simp [PyData.eqvAll]
  | [], _ :: _ => by simp [PyData.eqvAll]
  | _ :: _, [] => by simp [PyData.eqvAll]
  | x :: a, y :: b => by
    rw [List.map_cons, List.map_cons, PyData.eqvAll, eqv_ints a b, PyData.eqv]
    by_cases h : x = y <;> by_cases g : a = b <;> simp [h, g]
theorem eqv_enc (a b : Tr) : PyData.eqv (enc a) (enc b) = decide (a = b) := by
  unfold enc
  rw [PyData.eqv, eqv_ints]
theorem eqv_encs : ∀ a b : Pc, PyData.eqvAll (a.map enc) (b.map enc) = decide (a = b)
  | [], [] => by simp [PyData.eqvAll]
  | [], _ :: _ => by simp [PyData.eqvAll]
  | _ :: _, [] => by simp [PyData.eqvAll]
  | x :: a, y :: b => by
    rw [List.map_cons, List.map_cons, PyData.eqvAll, eqv_encs a b, eqv_enc]
    by_cases h : x = y <;> by_cases g : a = b <;> simp [h, g]
def encP (p : Pc) : D := .tuple (p.map enc)
@[simp] theorem g_seq_encP {pe : Bool} {p : Pc} : gSeq pe [.o (.d (encP p))] = .ok (p.map enc) := rfl
theorem encP_eqv (a b : Pc) : PyData.eqv (encP a) (encP b) = decide (a = b) := by
  unfold encP
  rw [PyData.eqv, eqv_encs]
theorem encP_plain (a : Pc) : (encP a).plain = true := by
  unfold encP
  rw [PyData.plain, encs_plain]
theorem encP_depth (a : Pc) : (encP a).depth ≤ 60 := by
  unfold encP
  rw [PyData.depth]
  have := encs_depthAll a
  omega
theorem alike_encs : ∀ a b : Pc, PySem.W.alikeAll (a.map enc) (b.map enc) = true
  | [], _ => by simp [PySem.W.alikeAll]
  | _ :: _, [] => by simp [PySem.W.alikeAll]
  | x :: a, y :: b => by
    rw [List.map_cons, List.map_cons, PySem.W.alikeAll, alike_encs a b, enc_alike]
    rfl
theorem encP_alike (a b : Pc) : PySem.W.alike (encP a) (encP b) = true := by
  unfold encP
  rw [PySem.W.alike, alike_encs]
theorem row_nil_cons (y : D) (ys : List D) : PySem.W.rowLt [] (y :: ys) = true := by
  rw [PySem.W.rowLt, PySem.W.toks_all_cons, PySem.W.keyToksAll, lex_diff (O := itemOrd) (by simp)] <;> rfl
theorem row_cons_nil (y : D) (ys : List D) : PySem.W.rowLt (y :: ys) [] = false := by
  rw [PySem.W.rowLt, PySem.W.toks_all_cons, PySem.W.keyToksAll, lex_diff (O := itemOrd) (by simp)] <;> rfl
theorem encs_lt : ∀ a b : Pc, PySem.W.rowLt (a.map enc) (b.map enc) = decide (a < b)
  | [], [] => by
    have : PySem.W.rowLt [] [] = false := lex_irrefl _
    simp [this]
  | [], y :: b => by
    rw [List.map_nil, List.map_cons, row_nil_cons]
    simp
  | x :: a, [] => by
    rw [List.map_nil, List.map_cons, row_cons_nil]
    simp
  | x :: a, y :: b => by
    have e : PySem.W.rowLt (enc x :: a.map enc) (enc y :: b.map enc) = if PyData.eqv (enc x) (enc y) = true then PySem.W.rowLt (a.map enc) (b.map enc) else PySem.W.dataLt (enc x) (enc y) := PySem.W.dataLt_cons (enc_alike x y) _ _
    rw [List.map_cons, List.map_cons, e, encs_lt a b, eqv_enc, enc_lt]
    by_cases h : x = y
    · subst h
      simp [List.cons_lt_cons_iff, List.lt_irrefl]
    · simp [h, List.cons_lt_cons_iff]
theorem encP_lt (a b : Pc) : PySem.W.dataLt (encP a) (encP b) = decide (a < b) := by
  unfold encP
  rw [PySem.W.dataLt_tuple]
  exact encs_lt a b
theorem flatP (p : Pc) : M.apart (.d (encP p)) = true := by
  unfold encP
  rw [M.apart, flatD, encs_flat]
@[simp] theorem encP_ty (p : Pc) : P.tyOf (encP p) = "tuple" := rfl
theorem q_eqP (a b : Pc) : P.eq [.o (.d (encP a)), .o (.d (encP b))] = .ok (.o (.d (.bool (decide (a = b))))) := by
  rw [q_eq_of (a := .d (encP a)) (b := .d (encP b)) rfl rfl rfl rfl (encP_plain a) (encP_plain b) (encP_depth a)]
  show Res.ok (Rv.o (.d (.bool (PyData.eqv (encP a) (encP b))))) = _
  rw [encP_eqv]
theorem q_neP (a b : Pc) : P.ne [.o (.d (encP a)), .o (.d (encP b))] = .ok (.o (.d (.bool (!decide (a = b))))) := by
  rw [q_ne_of (a := .d (encP a)) (b := .d (encP b)) rfl rfl rfl rfl (encP_plain a) (encP_plain b) (encP_depth a)]
  show Res.ok (Rv.o (.d (.bool (!PyData.eqv (encP a) (encP b))))) = _
  rw [encP_eqv]
theorem q_neT (a b : Tr) : P.ne [.o (.d (enc a)), .o (.d (enc b))] = .ok (.o (.d (.bool (!decide (a = b))))) := by
  rw [q_ne_of (a := .d (enc a)) (b := .d (enc b)) rfl rfl rfl rfl (enc_plain a) (enc_plain b) (enc_depth a)]
  show Res.ok (Rv.o (.d (.bool (!PyData.eqv (enc a) (enc b))))) = _
  rw [eqv_enc]
theorem q_ltP (a b : Pc) : P.lt [.o (.d (encP a)), .o (.d (encP b))] = .ok (.o (.d (.bool (decide (a < b))))) := by
  show (if (M.d (encP a)).fine = true ∧ (M.d (encP b)).fine = true ∧ P.okLt (encP a) (encP b) = true then Res.ok (Rv.p (.bool (PySem.W.dataLt (encP a) (encP b)))) else _) = _
  rw [if_pos, encP_lt]
  refine ⟨rfl, rfl, ?_⟩
  have h : P.okLt (encP a) (encP b) = (PySem.W.alike (encP a) (encP b) && true && decide ((encP a).depth ≤ 60)) := rfl
  rw [h, encP_alike]
  simp [encP_depth]
theorem q_lenP (a : Pc) : P.len [.o (.d (encP a))] = .ok (.o (.d (.int ((a.length : Nat) : Int)))) := by
  show Res.ok (Rv.p (.int ((a.map enc).length : Nat))) = _
  rw [List.length_map]
theorem q_idxP {p : Pc} {i : Nat} {t : Tr} (h : p[i]? = some t) : P.idx [.o (.d (encP p)), .o (.d (.int (i : Int)))] = .ok (.o (.d (enc t))) := by
  show P.idx [.o (.d (.tuple (p.map enc))), .o (.d (.int (i : Int)))] = _
  rw [S.q_idx_t, at_get (x := enc t) (by rw [List.getElem?_map, h]; rfl)]
  rfl
theorem q_dropP {p : Pc} {k : Nat} (h : k ≤ p.length) : P.slice (some (k : Int)) none (.o (.d (encP p))) = .ok (.o (.d (encP (p.drop k)))) := by
  show Res.ok (Rv.o (.d (.tuple (P.slc (p.map enc) (some (k : Int)) none)))) = _
  unfold P.slc
  rw [HT.sIx_nat, HT.sIx_none, List.length_map, Nat.min_eq_left h, List.take_of_length_le (by rw [List.length_drop, List.length_map]; exact Nat.le_refl _), ← List.map_drop]
  rfl
theorem q_takeP {p : Pc} {k : Nat} (h : k ≤ p.length) : P.slice none (some (k : Int)) (.o (.d (encP p))) = .ok (.o (.d (encP (p.take k)))) := by
  show Res.ok (Rv.o (.d (.tuple (P.slc (p.map enc) none (some (k : Int)))))) = _
  unfold P.slc
  rw [HT.sIx_nat, HT.sIx_none, List.length_map, Nat.min_eq_left h, Nat.sub_zero, List.drop_zero, ← List.map_take]
  rfl
theorem q_addP {a b : Pc} (h : a.length + b.length ≤ 16777216) : P.add [.o (.d (encP a)), .o (.d (encP b))] = .ok (.o (.d (encP (a ++ b)))) := by
  show (if (a.map enc).length + (b.map enc).length ≤ big then Res.ok (Rv.p (.tuple (a.map enc ++ b.map enc))) else Res.bad) = _
  rw [if_pos (by rw [List.length_map, List.length_map]; exact h), ← List.map_append]
  rfl
theorem mul_tup {xs : List D} {k : Int} (h : k = 1 ∨ (xs.isEmpty = false ∧ 2 ≤ k ∧ k ≤ 1000 ∧ xs.length ≤ 1000)) : P.mul [.o (.d (.tuple xs)), .o (.d (.int k))] = .ok (.o (.d (.tuple (List.replicate k.toNat xs).flatten))) := by
  show (if k = 1 then Res.ok (Rv.p (.tuple xs)) else if xs.isEmpty = false ∧ 2 ≤ k ∧ k ≤ 1000 ∧ xs.length ≤ 1000 then Res.ok (Rv.p (.tuple (List.replicate k.toNat xs).flatten)) else Res.bad) = _
  by_cases h1 : k = 1
  · rw [if_pos h1, h1]
    show Res.ok (Rv.o (.d (.tuple xs))) = Res.ok (Rv.o (.d (.tuple (List.replicate 1 xs).flatten)))
    simp
  · rcases h with h | h
    · exact absurd h h1
    · rw [if_neg h1, if_pos h]
theorem map_rep (k : Nat) (p : Pc) : (rep k p).map enc = (List.replicate k (p.map enc)).flatten := by
  induction k with
  | zero => rfl
  | succ k ih => rw [rep_succ, List.map_append, ih, List.replicate_succ, List.flatten_cons]
theorem q_mulP {p : Pc} {k : Nat} (hp : p ≠ []) (h0 : 1 ≤ k) (h1 : k ≤ 1000) (h2 : p.length ≤ 1000) : P.mul [.o (.d (encP p)), .o (.d (.int (k : Int)))] = .ok (.o (.d (encP (rep k p)))) := by
  have := mul_tup (xs := p.map enc) (k := (k : Int)) (by
    by_cases h : k = 1
    · exact .inl (by omega)
    · refine .inr ⟨?_, by omega, by omega, by rw [List.length_map]; exact h2⟩
      cases p with
      | nil => exact absurd rfl hp
      | cons a b => rfl)
  rw [Int.toNat_natCast, ← map_rep] at this
  exact this
/-! min -/
theorem min_fold : ∀ (x : Pc) (xs : List Pc), PySem.W.minD (encP x) (xs.map encP) = encP (xs.foldl (fun a y => if y < a then y else a) x)
  | x, [] => rfl
  | x, y :: xs => by
    unfold PySem.W.minD
    rw [List.map_cons, List.foldl_cons, List.foldl_cons, encP_lt]
    have ih := min_fold (if y < x then y else x) xs
    unfold PySem.W.minD at ih
    rw [← ih]
    by_cases h : y < x <;> simp [h]
theorem fold_min : ∀ (xs : List Pc) (x : Pc), (xs.foldl (fun a y => if y < a then y else a) x ∈ x :: xs) ∧ ∀ y ∈ x :: xs, ¬ y < xs.foldl (fun a y => if y < a then y else a) x
  | [], x => ⟨List.mem_cons_self, fun y hy => by
    rw [List.mem_singleton] at hy
    subst hy
    exact List.lt_irrefl _⟩
  | z :: xs, x => by
    rw [List.foldl_cons]
    obtain ⟨h1, h2⟩ := fold_min xs (if z < x then z else x)
    refine ⟨?_, fun y hy => ?_⟩
    · rcases List.mem_cons.mp h1 with h | h
      · rw [h]
        by_cases g : z < x
        · rw [if_pos g]
          exact List.mem_cons_of_mem _ List.mem_cons_self
        · rw [if_neg g]
          exact List.mem_cons_self
      · exact List.mem_cons_of_mem _ (List.mem_cons_of_mem _ h)
    · have h3 := h2 _ List.mem_cons_self
      rcases List.mem_cons.mp hy with rfl | hy
      · by_cases g : z < y
        · rw [if_pos g] at h3 ⊢
          intro hlt
          exact h3 (List.lt_trans g hlt)
        · rw [if_neg g] at h3 ⊢
          exact h3
      · rcases List.mem_cons.mp hy with rfl | hy
        · by_cases g : y < x
          · rw [if_pos g] at h3 ⊢
            exact h3
          · rw [if_neg g] at h3 ⊢
            intro hlt
            rcases pc_tot h3 with e | e
            · rw [← e] at hlt
              exact g hlt
            · exact g (List.lt_trans hlt e)
        · exact h2 y (List.mem_cons_of_mem _ hy)
theorem q_minP (x : Pc) (xs : List Pc) : ∃ q, P.min [.o (.v ((x :: xs).map encP))] = .ok (.o (.d (encP q))) ∧ q ∈ x :: xs ∧ ∀ y ∈ x :: xs, ¬ y < q := by
  obtain ⟨h1, h2⟩ := fold_min xs x
  refine ⟨_, ?_, h1, h2⟩
  show (if P.okMin (encP x :: xs.map encP) = true then Res.ok (Rv.p (PySem.W.minD (encP x) (xs.map encP))) else Res.bad) = _
  rw [if_pos, min_fold]
  have hm : ∀ d ∈ encP x :: xs.map encP, ∃ q, d = encP q := by
    intro d hd
    rcases List.mem_cons.mp hd with rfl | hd
    · exact ⟨x, rfl⟩
    · obtain ⟨q, _, rfl⟩ := List.mem_map.mp hd
      exact ⟨q, rfl⟩
  unfold P.okMin
  simp only [Bool.and_eq_true, List.all_eq_true, decide_eq_true_eq]
  refine ⟨⟨fun d hd e he => ?_, fun d hd => ?_⟩, fun d hd => ?_⟩
  · obtain ⟨a, rfl⟩ := hm d hd
    obtain ⟨b, rfl⟩ := hm e he
    exact encP_alike a b
  · obtain ⟨a, rfl⟩ := hm d hd
    exact encP_depth a
  · obtain ⟨a, rfl⟩ := hm d hd
    rfl
end Oa

/-! Pieces: their tests, roots. -/
namespace Oa
open PySem PySem.Spec PyProof.Rows L2
namespace V
variable {cf : CfT} {cs : Str → Option D} {fu : Nat}
theorem def_nx {fn : Fn} {ks ks' : List M} {m : Sl} (h : fn.body.runs cf cs fu (slots0 fn.N.length ks) = .ok (.nx m)) (hb : backs fn.wp ks m = some ks') : fnF cf cs fu fn ks = .ok (.o (.d .none), ks') := by
  unfold fnF
  rw [h]
  show endF fn.wp ks (.d .none) m = _
  unfold endF
  rw [hb]
theorem ex {e : Ex} {m m1 : Sl} {r : Rv} (h : e.ev cf cs m = .ok (r, m1)) : (St.ex e).run cf cs fu m = .ok (.nx m1) := by
  show ((e.ev cf cs m).bind fun (_, m1) => Res.ok (Out.nx m1)) = _
  rw [h]
  rfl
theorem for_rt {t : Tg} {body : StF} {d : D} {ds : List D} {m m1 m2 : Sl} {k : M} (h1 : t.put d m = some m1) (h2 : body m1 = .ok (.rt k m2)) : forF t body (d :: ds) m = .ok (.rt k m2) := by
  unfold forF
  simp only [h1, h2]
end V
namespace S
variable {cf : CfT} {cs : Str → Option D} {fu : Nat} {m : Sl}
theorem call_2 {f : Str} {a b : Ex} {m1 m2 : Sl} {d e : D} {k x y : M} (h : a.ev cf cs m = .ok (.o (.d d), m1)) (g : b.ev cf cs m1 = .ok (.o (.d e), m2)) (hC : cf f [.d d, .d e] = .ok (.o k, [x, y])) : (Ex.call f (.r a (.r b .nil))).ev cf cs m = .ok (.o k, m2) :=
  V.call (V.as_r h (V.as_r g V.as_nil rfl) rfl) rfl rfl hC rfl rfl
theorem call_3 {f : Str} {a b c : Ex} {m1 m2 m3 : Sl} {d e g : D} {k x y z : M} (h1 : a.ev cf cs m = .ok (.o (.d d), m1)) (h2 : b.ev cf cs m1 = .ok (.o (.d e), m2)) (h3 : c.ev cf cs m2 = .ok (.o (.d g), m3)) (hC : cf f [.d d, .d e, .d g] = .ok (.o k, [x, y, z])) : (Ex.call f (.r a (.r b (.r c .nil)))).ev cf cs m = .ok (.o k, m3) :=
  V.call (V.as_r h1 (V.as_r h2 (V.as_r h3 V.as_nil rfl) rfl) rfl) rfl rfl hC rfl rfl
/-- .. a written list, two data -/
theorem call_w2 {f : Str} {a b : Ex} {i : Nat} {m1 m2 : Sl} {q q1 q' k x y : M} {d e : D} (h0 : m[i]? = some (some q)) (h : a.ev cf cs m = .ok (.o (.d d), m1)) (g : b.ev cf cs m1 = .ok (.o (.d e), m2)) (h1 : m2[i]? = some (some q1)) (hC : cf f [q1, .d d, .d e] = .ok (.o k, [q', x, y])) : (Ex.call f (.w i (.r a (.r b .nil)))).ev cf cs m = .ok (.o k, m2.set i (some q')) := by
  refine V.call (V.as_w h0 (V.as_r h (V.as_r g V.as_nil rfl) rfl)) rfl ?_ hC ?_ rfl (m2 := m2.set i none)
  · show (match m2[i]? with
    | some (some k) => (some ([M.d d, .d e], m2.set i none)).map fun (p : List M × Sl) => (k :: p.1, p.2)
    | _ => none) = _
    rw [h1]
    rfl
  · show some ((m2.set i none).set i (some q')) = _
    rw [List.set_set]
end S
theorem lv_is_between {n : Nat} {ks : List M} : lev (n + 1) "is_between" ks = fnF (lev n) cs0 fuel f_is_between ks := rfl
theorem lv_check_number {n : Nat} {ks : List M} : lev (n + 1) "check_number" ks = fnF (lev n) cs0 fuel f_check_number ks := rfl
theorem lv_first_turn {n : Nat} {ks : List M} : lev (n + 1) "first_turn" ks = fnF (lev n) cs0 fuel f_first_turn ks := rfl
theorem lv_is_marked_row {n : Nat} {ks : List M} : lev (n + 1) "is_marked_row" ks = fnF (lev n) cs0 fuel f_is_marked_row ks := rfl
theorem lv_is_piece {n : Nat} {ks : List M} : lev (n + 1) "is_piece" ks = fnF (lev n) cs0 fuel f_is_piece ks := rfl
theorem lv_check_piece {n : Nat} {ks : List M} : lev (n + 1) "check_piece" ks = fnF (lev n) cs0 fuel f_check_piece ks := rfl
theorem lv_size_of {n : Nat} {ks : List M} : lev (n + 1) "size_of" ks = fnF (lev n) cs0 fuel f_size_of ks := rfl
theorem lv_piece_size {n : Nat} {ks : List M} : lev (n + 1) "piece_size" ks = fnF (lev n) cs0 fuel f_piece_size ks := rfl
theorem lv_period_of {n : Nat} {ks : List M} : lev (n + 1) "period_of" ks = fnF (lev n) cs0 fuel f_period_of ks := rfl
theorem lv_root_piece {n : Nat} {ks : List M} : lev (n + 1) "root_piece" ks = fnF (lev n) cs0 fuel f_root_piece ks := rfl
theorem lv_root_of {n : Nat} {ks : List M} : lev (n + 1) "root_of" ks = fnF (lev n) cs0 fuel f_root_of ks := rfl
theorem lv_unrolled {n : Nat} {ks : List M} : lev (n + 1) "unrolled" ks = fnF (lev n) cs0 fuel f_unrolled ks := rfl
theorem lv_law_least {n : Nat} {ks : List M} : lev (n + 1) "_law_least" ks = fnF (lev n) cs0 fuel f__law_least ks := rfl
theorem lv_law_piece {n : Nat} {ks : List M} : lev (n + 1) "_law_piece" ks = fnF (lev n) cs0 fuel f__law_piece ks := rfl
/-! ### numbers -/
theorem L_between {n : Nat} {i a b : Int} (h1 : a ≤ i) (h2 : i ≤ b) : lev (n + 2) "is_between" [.d (.int i), .d (.int a), .d (.int b)] = .ok (.o (.d (.bool true)), [.d (.int i), .d (.int a), .d (.int b)]) := by
  rw [lv_is_between]
  refine V.def_rt (m := [some (.d (.int i)), some (.d (.int a)), some (.d (.int b))]) ?_ rfl
  have c1 : (Ex.call "is_integer" (.r (.var 0) .nil)).ev (lev (n + 1)) cs0 [some (.d (.int i)), some (.d (.int a)), some (.d (.int b))] = .ok (.p (.bool true), [some (.d (.int i)), some (.d (.int a)), some (.d (.int b))]) := S.call_d rfl L_int
  have c2 : (Ex.cmp2 .le .le (.var 1) (.var 0) (.var 2)).ev (lev (n + 1)) cs0 [some (.d (.int i)), some (.d (.int a)), some (.d (.int b))] = .ok (.p (.bool true), [some (.d (.int i)), some (.d (.int a)), some (.d (.int b))]) := by
    simp [h1, h2]
  exact V.seq_rt (V.ret (V.and_t c1 c2) rfl)
theorem L_checkn {n : Nat} {i a b : Int} (h1 : a ≤ i) (h2 : i ≤ b) : lev (n + 3) "check_number" [.d (.int i), .d (.int a), .d (.int b)] = .ok (.o (.d .none), [.d (.int i), .d (.int a), .d (.int b)]) := by
  rw [lv_check_number]
  refine V.def_nx (m := [some (.d (.int i)), some (.d (.int a)), some (.d (.int b))]) ?_ rfl
  have c1 : (Ex.call "is_between" (.r (.var 0) (.r (.var 1) (.r (.var 2) .nil)))).ev (lev (n + 2)) cs0 [some (.d (.int i)), some (.d (.int a)), some (.d (.int b))] = .ok (.p (.bool true), [some (.d (.int i)), some (.d (.int a)), some (.d (.int b))]) := S.call_3 rfl rfl rfl (L_between h1 h2)
  exact V.seq_nx (V.if_f (V.not c1) rfl) rfl
/-! ### turnings -/
def ftB : Sts := Sts.forB f_first_turn.body.tl.hd
theorem rot_ev {n k : Nat} {p : Pc} {x : Nat} {s : Sl} (h0 : s[0]? = some (some (.d (encP p)))) (hx : s[x]? = some (some (.d (.int (k : Int))))) (hk : k ≤ p.length) (hl : p.length ≤ 1000000) : (Ex.p2 .add (.slL (.var 0) (.var x)) (.slH (.var 0) (.var x))).ev (lev n) cs0 s = .ok (.o (.d (encP (rot k p))), s) := by
  have v0 : (Ex.var 0).ev (lev n) cs0 s = .ok (.o (.d (encP p)), s) := by rw [S.ev_var, h0]; rfl
  have vx : (Ex.var x).ev (lev n) cs0 s = .ok (.o (.d (.int (k : Int))), s) := by rw [S.ev_var, hx]; rfl
  have c1 : (Ex.slL (.var 0) (.var x)).ev (lev n) cs0 s = .ok (.o (.d (encP (p.drop k))), s) := by
    rw [S.ev_slL, v0]
    simp only [Res.bind_ok, vx, S.isB_o, Bool.false_and, Bool.false_eq_true, if_false, S.m_o, S.int_i, S.i3_some, q_dropP hk]
  have c2 : (Ex.slH (.var 0) (.var x)).ev (lev n) cs0 s = .ok (.o (.d (encP (p.take k))), s) := by
    rw [S.ev_slH, v0]
    simp only [Res.bind_ok, vx, S.isB_o, Bool.false_and, Bool.false_eq_true, if_false, S.m_o, S.int_i, S.i3_some, q_takeP hk]
  exact V.p2 (p := .add) c1 c2 rfl (q_addP (by rw [List.length_drop, List.length_take]; omega))
theorem turn_for {n : Nat} {p : Pc} (hp : Least p) (hl : p.length ≤ 1000) : ∀ (j k : Nat) (x : Option M), k + j = p.length → 1 ≤ k → ∃ y, forF (.n 2) (ftB.runs (lev n) cs0 fuel) (rngList (k : Int) (p.length : Nat)) [some (.d (encP p)), some (.d (.int ((0 : Nat) : Int))), x] = .ok (.nx [some (.d (encP p)), some (.d (.int ((0 : Nat) : Int))), y])
  | 0, k, x, hk, h1 => ⟨x, by rw [rng_nil (by omega)]; rfl⟩
  | j + 1, k, x, hk, h1 => by
    obtain ⟨y, e⟩ := turn_for (n := n) hp hl j (k + 1) (some (.d (.int (k : Int)))) (by omega) (by omega)
    refine ⟨y, ?_⟩
    rw [rng_cons (by omega)]
    refine V.for_cons (m1 := [some (.d (encP p)), some (.d (.int ((0 : Nat) : Int))), some (.d (.int (k : Int)))]) rfl ?_ e
    have c1 := rot_ev (n := n) (k := k) (p := p) (x := 2) (s := [some (.d (encP p)), some (.d (.int ((0 : Nat) : Int))), some (.d (.int (k : Int)))]) rfl rfl (by omega) (by omega)
    have c2 := rot_ev (n := n) (k := 0) (p := p) (x := 1) (s := [some (.d (encP p)), some (.d (.int ((0 : Nat) : Int))), some (.d (.int (k : Int)))]) rfl rfl (by omega) (by omega)
    have c3 := V.p2 (p := .lt) c1 c2 rfl (q_ltP (rot k p) (rot 0 p))
    rw [rot_zero, decide_eq_false (hp k (by omega))] at c3
    exact V.seq_nx (V.if_f c3 rfl) rfl
theorem L_turn {n : Nat} {p : Pc} (hp : Least p) (h0 : p ≠ []) (hl : p.length ≤ 1000) : lev (n + 1) "first_turn" [.d (encP p)] = .ok (.o (.d (.int 0)), [.d (encP p)]) := by
  rw [lv_first_turn]
  have hlen : 0 < p.length := List.length_pos_iff.mpr h0
  obtain ⟨y, e⟩ := turn_for (n := n) hp hl (p.length - 1) 1 none (by omega) (Nat.le_refl _)
  refine V.def_rt (m := [some (.d (encP p)), none, y]) ?_ rfl
  refine V.seq_nx (V.set (r := .o (.d (.int ((0 : Nat) : Int)))) (m1 := [some (.d (encP p)), none, none]) (m2 := [some (.d (encP p)), some (.d (.int ((0 : Nat) : Int))), none]) rfl rfl rfl) ?_
  refine V.seq_nx (V.forS (ds := rngList ((1 : Nat) : Int) (p.length : Nat)) (m1 := [some (.d (encP p)), some (.d (.int ((0 : Nat) : Int))), none]) ?_ e) ?_
  · exact S.rng2_of (i := 1) (j := (p.length : Nat)) (m1 := [some (.d (encP p)), some (.d (.int ((0 : Nat) : Int))), none]) rfl (V.p1 (p := .len) rfl (q_lenP p)) (by omega) (by omega) (by omega) (by omega)
  · exact V.seq_rt rfl
/-- trees, at least one, no turning is less -/
structure PcOk (p : Pc) : Prop where
  ne : p ≠ []
  good : ∀ t ∈ p, Good t ∧ t.length ≤ 1000
  least : Least p
theorem L_marked {n : Nat} {p : Pc} (h : PcOk p) (hl : p.length ≤ 1000) : lev (n + 4) "is_marked_row" [.d (encP p)] = .ok (.o (.d (.bool true)), [.d (encP p)]) := by
  rw [lv_is_marked_row]
  have hlen : 0 < p.length := List.length_pos_iff.mpr h.ne
  refine V.def_rt (m := [some (.d (encP p)), none]) ?_ rfl
  have c1 : (Ex.isi (.var 0) "tuple").ev (lev (n + 3)) cs0 [some (.d (encP p)), none] = .ok (.p (.bool true), [some (.d (encP p)), none]) := by simp
  have c2 : (Ex.p2 .gt (.p1 .len (.var 0)) (.int 0)).ev (lev (n + 3)) cs0 [some (.d (encP p)), none] = .ok (.p (.bool true), [some (.d (encP p)), none]) := by
    refine V.p2 (p := .gt) (V.p1 (p := .len) (m1 := [some (.d (encP p)), none]) rfl (q_lenP p)) rfl rfl ?_
    rw [S.f_gt, S.q_gt, decide_eq_true (by omega)]
  have c3 : (Ex.comp false (.call "is_tree" (.r (.var 1) .nil)) (.n 1) (.ex (.var 0)) .nil).ev (lev (n + 3)) cs0 [some (.d (encP p)), none] = .ok (.o (.v (p.map fun _ => .bool true)), [some (.d (encP p)), none]) :=
    V.comp_map (m1 := [some (.d (encP p)), none]) enc p [some (.d (encP p)), none] (fun t => [some (.d (encP p)), some (.d (enc t))]) (fun _ => .bool true) rfl rfl (fun t ht => ⟨rfl, rfl, .o (.d (.bool true)), S.call_d rfl (L_isT (h.good t ht).1 (h.good t ht).2), rfl⟩) (Nat.le_trans hl (by decide)) rfl (fun _ _ => rfl)
  exact V.seq_rt (V.ret (V.and_t c1 (V.and_t c2 (V.p1 (p := .all) c3 (all_map p)))) rfl)
theorem L_isP {n : Nat} {p : Pc} (h : PcOk p) (hl : p.length ≤ 1000) : lev (n + 5) "is_piece" [.d (encP p)] = .ok (.o (.d (.bool true)), [.d (encP p)]) := by
  rw [lv_is_piece]
  refine V.def_rt (m := [some (.d (encP p))]) ?_ rfl
  have c1 : (Ex.call "is_marked_row" (.r (.var 0) .nil)).ev (lev (n + 4)) cs0 [some (.d (encP p))] = .ok (.p (.bool true), [some (.d (encP p))]) := S.call_d rfl (L_marked h hl)
  have c2 : (Ex.p2 .eq (.call "first_turn" (.r (.var 0) .nil)) (.int 0)).ev (lev (n + 4)) cs0 [some (.d (encP p))] = .ok (.p (.bool true), [some (.d (encP p))]) :=
    V.p2 (p := .eq) (S.call_d (m1 := [some (.d (encP p))]) rfl (L_turn (n := n + 3) h.least h.ne hl)) rfl rfl (S.q_eq (i := 0) (j := 0))
  exact V.seq_rt (V.ret (V.and_t c1 c2) rfl)
theorem L_checkp {n : Nat} {p : Pc} (h : PcOk p) (hl : p.length ≤ 1000) : lev (n + 6) "check_piece" [.d (encP p)] = .ok (.o (.d .none), [.d (encP p)]) := by
  rw [lv_check_piece]
  refine V.def_nx (m := [some (.d (encP p))]) ?_ rfl
  have c1 : (Ex.call "is_piece" (.r (.var 0) .nil)).ev (lev (n + 5)) cs0 [some (.d (encP p))] = .ok (.p (.bool true), [some (.d (encP p))]) := S.call_d rfl (L_isP h hl)
  exact V.seq_nx (V.if_f (V.not c1) rfl) rfl
/-! ### sizes -/
def wtP (p : Pc) : Nat := (p.map List.length).sum
theorem sum_ints (ns : List Int) : P.sum [.o (.v (ns.map .int))] = .ok (.o (.d (.int ns.sum))) := by
  have : ∀ ns : List Int, P.intsOf (ns.map .int) = some ns := by
    intro ns
    induction ns with
    | nil => rfl
    | cons n ns ih =>
      show (P.intsOf (ns.map .int)).map (n :: ·) = _
      rw [ih]
      rfl
  show (match P.intsOf (ns.map .int) with
      | some ns => Res.ok (Rv.p (.int ns.sum))
      | none => Res.bad) = _
  rw [this]
theorem sum_cast (ts : List Tr) : (ts.map fun t => ((t.length : Nat) : Int)).sum = ((wtP ts : Nat) : Int) := by
  unfold wtP
  induction ts with
  | nil => rfl
  | cons t ts ih =>
    rw [List.map_cons, List.sum_cons, List.map_cons, List.sum_cons, ih]
    omega
theorem L_size {n : Nat} {p : Pc} (hl : p.length ≤ 1000) : lev (n + 1) "size_of" [.d (encP p)] = .ok (.o (.d (.int (wtP p : Nat))), [.d (encP p)]) := by
  rw [lv_size_of]
  refine V.def_rt (m := [some (.d (encP p)), none]) ?_ rfl
  have c1 : (Ex.comp false (.p1 .len (.var 1)) (.n 1) (.ex (.var 0)) .nil).ev (lev n) cs0 [some (.d (encP p)), none] = .ok (.o (.v (p.map fun t => .int ((t.length : Nat) : Int))), [some (.d (encP p)), none]) :=
    V.comp_map (m1 := [some (.d (encP p)), none]) enc p [some (.d (encP p)), none] (fun t => [some (.d (encP p)), some (.d (enc t))]) (fun t => .int ((t.length : Nat) : Int)) rfl rfl (fun t ht => ⟨rfl, rfl, .o (.d (.int ((t.length : Nat) : Int))), by simp, rfl⟩) (Nat.le_trans hl (by decide)) rfl (fun _ _ => rfl)
  have c2 : P.sum [.o (.v (p.map fun t => .int ((t.length : Nat) : Int)))] = .ok (.o (.d (.int (wtP p : Nat)))) := by
    have := sum_ints (p.map fun t => ((t.length : Nat) : Int))
    rw [List.map_map, sum_cast] at this
    exact this
  exact V.seq_rt (V.ret (V.p1 (p := .sum) c1 c2) rfl)
theorem L_psize {n : Nat} {p : Pc} (h : PcOk p) (hl : p.length ≤ 1000) : lev (n + 7) "piece_size" [.d (encP p)] = .ok (.o (.d (.int (wtP p : Nat))), [.d (encP p)]) := by
  rw [lv_piece_size]
  refine V.def_rt (m := [some (.d (encP p))]) ?_ rfl
  exact V.seq_nx (V.ex (S.call_d rfl (L_checkp h hl))) (V.seq_rt (V.ret (S.call_d rfl (L_size (n := n + 5) hl)) rfl))
/-! ### roots -/
theorem per_cond {n : Nat} {p : Pc} {k : Nat} (h1 : 1 ≤ k) (hk : k ≤ p.length) (hl : p.length ≤ 1000) : ∃ b, (Ex.and (.p2 .eq (.p2 .mod (.p1 .len (.var 0)) (.var 1)) (.int 0)) (.p2 .eq (.p2 .mul (.slH (.var 0) (.var 1)) (.p2 .fdiv (.p1 .len (.var 0)) (.var 1))) (.var 0))).ev (lev n) cs0 [some (.d (encP p)), some (.d (.int (k : Int)))] = .ok (.p (.bool b), [some (.d (encP p)), some (.d (.int (k : Int)))]) ∧ (b = true ↔ Per p k) := by
  have l1 : (Ex.p1 .len (.var 0)).ev (lev n) cs0 [some (.d (encP p)), some (.d (.int (k : Int)))] = .ok (.o (.d (.int ((p.length : Nat) : Int))), [some (.d (encP p)), some (.d (.int (k : Int)))]) := V.p1 (p := .len) rfl (q_lenP p)
  have m1 : P.mod [.o (.d (.int ((p.length : Nat) : Int))), .o (.d (.int (k : Int)))] = .ok (.o (.d (.int ((p.length % k : Nat) : Int)))) := by
    rw [S.q_mod (by omega), Int.natCast_emod]
  have c1 : (Ex.p2 .eq (.p2 .mod (.p1 .len (.var 0)) (.var 1)) (.int 0)).ev (lev n) cs0 [some (.d (encP p)), some (.d (.int (k : Int)))] = .ok (.p (.bool (decide (((p.length % k : Nat) : Int) = 0))), [some (.d (encP p)), some (.d (.int (k : Int)))]) :=
    V.p2 (p := .eq) (V.p2 (p := .mod) l1 rfl rfl m1) rfl rfl (S.q_eq (i := ((p.length % k : Nat) : Int)) (j := 0))
  by_cases hm : p.length % k = 0
  · rw [decide_eq_true (by omega)] at c1
    have d1 : P.fdiv [.o (.d (.int ((p.length : Nat) : Int))), .o (.d (.int (k : Int)))] = .ok (.o (.d (.int ((p.length / k : Nat) : Int)))) := by
      rw [q_fdivS (i := ((p.length : Nat) : Int)) (j := (k : Int)) (by omega) (by omega), Int.natCast_ediv]
    have hne : p.take k ≠ [] := by
      intro e
      have := congrArg List.length e
      rw [List.length_take, List.length_nil] at this
      omega
    have s1 : (Ex.slH (.var 0) (.var 1)).ev (lev n) cs0 [some (.d (encP p)), some (.d (.int (k : Int)))] = .ok (.o (.d (encP (p.take k))), [some (.d (encP p)), some (.d (.int (k : Int)))]) := by
      rw [S.ev_slH]
      simp only [S.ev_var, List.getElem?_cons_zero, List.getElem?_cons_succ, S.vr_some, S.look_d, Res.bind_ok, S.isB_o, Bool.false_and, Bool.false_eq_true, if_false, S.m_o, S.int_i, S.i3_some, q_takeP hk]
    have e1 := q_mulP (p := p.take k) (k := p.length / k) hne (Nat.div_pos hk h1) (Nat.le_trans (Nat.div_le_self _ _) hl) (by rw [List.length_take]; omega)
    refine ⟨_, V.and_t c1 (V.p2 (p := .eq) (V.p2 (p := .mul) s1 (V.p2 (p := .fdiv) l1 rfl rfl d1) rfl e1) rfl rfl (q_eqP _ p)), ?_⟩
    rw [decide_eq_true_eq]
    exact ⟨fun h => ⟨hm, h⟩, fun h => h.2⟩
  · rw [decide_eq_false (by omega)] at c1
    exact ⟨false, V.and_f c1, ⟨fun h => (by cases h), fun h => absurd h.1 hm⟩⟩
def poB : Sts := Sts.forB f_period_of.body.hd
theorem period_for {n : Nat} {p : Pc} (hl : p.length ≤ 1000) : ∀ (j k : Nat) (x : Option M), k + j = p.length → 1 ≤ k → (∀ e, 0 < e → e < k → ¬ Per p e) → (∃ d : Nat, forF (.n 1) (poB.runs (lev n) cs0 fuel) (rngList (k : Int) (p.length : Nat)) [some (.d (encP p)), x] = .ok (.rt (.d (.int (d : Int))) [some (.d (encP p)), none]) ∧ Root p d) ∨ ∃ y, forF (.n 1) (poB.runs (lev n) cs0 fuel) (rngList (k : Int) (p.length : Nat)) [some (.d (encP p)), x] = .ok (.nx [some (.d (encP p)), y]) ∧ ∀ e, 0 < e → e < p.length → ¬ Per p e
  | 0, k, x, hk, h1, h => .inr ⟨x, by rw [rng_nil (by omega)]; rfl, fun e e0 e1 => h e e0 (by omega)⟩
  | j + 1, k, x, hk, h1, h => by
    obtain ⟨b, c1, hb⟩ := per_cond (n := n) (p := p) h1 (by omega) hl
    rw [rng_cons (by omega)]
    cases b with
    | true =>
      refine .inl ⟨k, V.for_rt (m1 := [some (.d (encP p)), some (.d (.int (k : Int)))]) rfl ?_, by omega, hb.mp rfl, h⟩
      exact V.seq_rt (V.if_t c1 (V.seq_rt rfl))
    | false =>
      have hn : ¬ Per p k := fun z => by cases hb.mpr z
      have hb2 : poB.runs (lev n) cs0 fuel [some (.d (encP p)), some (.d (.int (k : Int)))] = .ok (.nx [some (.d (encP p)), some (.d (.int (k : Int)))]) := V.seq_nx (V.if_f c1 rfl) rfl
      have h2 : ∀ e, 0 < e → e < k + 1 → ¬ Per p e := fun e e0 e1 => by
        by_cases he : e = k
        · subst he
          exact hn
        · exact h e e0 (by omega)
      rcases period_for (n := n) hl j (k + 1) (some (.d (.int (k : Int)))) (by omega) (by omega) h2 with ⟨d, e, hd⟩ | ⟨y, e, hy⟩
      · exact .inl ⟨d, V.for_cons (m1 := [some (.d (encP p)), some (.d (.int (k : Int)))]) rfl hb2 e, hd⟩
      · exact .inr ⟨y, V.for_cons (m1 := [some (.d (encP p)), some (.d (.int (k : Int)))]) rfl hb2 e, hy⟩
theorem L_period {n : Nat} {p : Pc} (h0 : p ≠ []) (hl : p.length ≤ 1000) : ∃ d : Nat, lev (n + 1) "period_of" [.d (encP p)] = .ok (.o (.d (.int (d : Int))), [.d (encP p)]) ∧ Root p d := by
  rw [lv_period_of]
  have hlen : 0 < p.length := List.length_pos_iff.mpr h0
  have hs : (Itx.rng2 (.int 1) (.p1 .len (.var 0))).evi (lev n) cs0 poB.pu [some (.d (encP p)), none] = .ok (rngList ((1 : Nat) : Int) (p.length : Nat), [some (.d (encP p)), none]) := S.rng2_of (i := 1) (j := (p.length : Nat)) (m1 := [some (.d (encP p)), none]) rfl (V.p1 (p := .len) rfl (q_lenP p)) (by omega) (by omega) (by omega) (by omega)
  rcases period_for (n := n) hl (p.length - 1) 1 none (by omega) (Nat.le_refl _) (fun e e0 e1 => by omega) with ⟨d, e, hd⟩ | ⟨y, e, hy⟩
  · exact ⟨d, V.def_rt (V.seq_rt (V.forS hs e)) rfl, hd⟩
  · refine ⟨p.length, V.def_rt (m := [some (.d (encP p)), y]) (V.seq_nx (V.forS hs e) (V.seq_rt (V.ret (V.p1 (p := .len) rfl (q_lenP p)) rfl))) rfl, hlen, per_self hlen, hy⟩
theorem root_le {p : Pc} {d : Nat} (hp : 0 < p.length) (h : Root p d) : d ≤ p.length := Nat.le_of_dvd hp (Nat.dvd_of_mod_eq_zero h.2.1.1)
theorem take_slH {n : Nat} {p : Pc} {d : Nat} {e : Ex} {s s1 : Sl} (h0 : s[0]? = some (some (.d (encP p)))) (he : e.ev (lev n) cs0 s = .ok (.o (.d (.int (d : Int))), s1)) (hd : d ≤ p.length) : (Ex.slH (.var 0) e).ev (lev n) cs0 s = .ok (.o (.d (encP (p.take d))), s1) := by
  have v0 : (Ex.var 0).ev (lev n) cs0 s = .ok (.o (.d (encP p)), s) := by rw [S.ev_var, h0]; rfl
  rw [S.ev_slH, v0]
  simp only [Res.bind_ok, he, S.isB_o, Bool.false_and, Bool.false_eq_true, if_false, S.m_o, S.int_i, S.i3_some, q_takeP hd]
theorem L_rootp {n : Nat} {p : Pc} (h0 : p ≠ []) (hl : p.length ≤ 1000) : ∃ d : Nat, lev (n + 2) "root_piece" [.d (encP p)] = .ok (.o (.d (encP (p.take d))), [.d (encP p)]) ∧ Root p d := by
  rw [lv_root_piece]
  obtain ⟨d, e, hd⟩ := L_period (n := n) h0 hl
  refine ⟨d, V.def_rt (m := [some (.d (encP p))]) ?_ rfl, hd⟩
  exact V.seq_rt (V.ret (take_slH rfl (S.call_d rfl e) (root_le (List.length_pos_iff.mpr h0) hd)) rfl)
theorem L_rootof {n : Nat} {p : Pc} (h : PcOk p) (hl : p.length ≤ 1000) : ∃ d : Nat, lev (n + 7) "root_of" [.d (encP p)] = .ok (.o (.d (encP (p.take d))), [.d (encP p)]) ∧ Root p d := by
  rw [lv_root_of]
  obtain ⟨d, e, hd⟩ := L_rootp (n := n + 4) h.ne hl
  refine ⟨d, V.def_rt (m := [some (.d (encP p))]) ?_ rfl, hd⟩
  exact V.seq_nx (V.ex (S.call_d rfl (L_checkp h hl))) (V.seq_rt (V.ret (S.call_d rfl e) rfl))
theorem L_unroll {n : Nat} {p : Pc} {k : Nat} (h : PcOk p) (hl : p.length ≤ 1000) (h1 : 1 ≤ k) (h2 : k ≤ 1000) : lev (n + 7) "unrolled" [.d (encP p), .d (.int (k : Int))] = .ok (.o (.d (encP (rep k p))), [.d (encP p), .d (.int (k : Int))]) := by
  rw [lv_unrolled]
  refine V.def_rt (m := [some (.d (encP p)), some (.d (.int (k : Int)))]) ?_ rfl
  refine V.seq_nx (V.ex (S.call_d (m1 := [some (.d (encP p)), some (.d (.int (k : Int)))]) rfl (L_checkp h hl))) ?_
  refine V.seq_nx (V.ex (S.call_3 (m3 := [some (.d (encP p)), some (.d (.int (k : Int)))]) rfl rfl rfl (L_checkn (n := n + 3) (i := (k : Int)) (a := 1) (b := 1000) (by omega) (by omega)))) ?_
  exact V.seq_rt (V.ret (V.p2 (p := .mul) rfl rfl rfl (q_mulP h.ne h1 h2 hl)) rfl)
/-! ### the least turning -/
theorem rng0_map (m : Nat) : rngList 0 (m : Int) = (List.range m).map nD := by
  unfold rngList
  rw [show ((m : Int) - 0).toNat = m by omega]
  exact List.map_congr_left fun i _ => congrArg PyData.int (by omega)
theorem L_least {n : Nat} {p : Pc} (h0 : p ≠ []) (hl : p.length ≤ 1000) : ∃ q, lev (n + 1) "_law_least" [.d (encP p)] = .ok (.o (.d (encP q)), [.d (encP p)]) ∧ Least q ∧ q.length = p.length ∧ ∀ t ∈ q, t ∈ p := by
  rw [lv_law_least]
  have hlen : 0 < p.length := List.length_pos_iff.mpr h0
  have c1 : (Ex.comp false (.p2 .add (.slL (.var 0) (.var 1)) (.slH (.var 0) (.var 1))) (.n 1) (.rng1 (.p1 .len (.var 0))) .nil).ev (lev n) cs0 [some (.d (encP p)), none] = .ok (.o (.v ((List.range p.length).map fun k => encP (rot k p))), [some (.d (encP p)), none]) := by
    refine V.comp_map (m1 := [some (.d (encP p)), none]) nD (List.range p.length) [some (.d (encP p)), none] (fun k => [some (.d (encP p)), some (.d (.int (k : Int)))]) (fun k => encP (rot k p)) ?_ rfl (fun k hk => ⟨rfl, rfl, .o (.d (encP (rot k p))), rot_ev rfl rfl (Nat.le_of_lt (List.mem_range.mp hk)) (by omega), rfl⟩) (by rw [List.length_range]; exact Nat.le_trans hl (by decide)) rfl (fun _ _ => rfl)
    rw [← rng0_map]
    exact S.rng1_of (V.p1 (p := .len) rfl (q_lenP p)) (by omega) (by omega)
  obtain ⟨m, hm⟩ : ∃ m, p.length = m + 1 := ⟨p.length - 1, by omega⟩
  have e1 : (List.range p.length).map (fun k => encP (rot k p)) = (rot 0 p :: ((List.range m).map Nat.succ).map fun k => rot k p).map encP := by
    rw [hm, List.range_succ_eq_map, List.map_cons, List.map_cons, List.map_map (f := fun k => rot k p)]
    rfl
  rw [e1] at c1
  obtain ⟨q, eq, hq, hq2⟩ := q_minP (rot 0 p) (((List.range m).map Nat.succ).map fun k => rot k p)
  have hmem : ∀ y, y ∈ rot 0 p :: ((List.range m).map Nat.succ).map (fun k => rot k p) ↔ ∃ k, k < p.length ∧ y = rot k p := by
    intro y
    have : rot 0 p :: ((List.range m).map Nat.succ).map (fun k => rot k p) = (List.range p.length).map fun k => rot k p := by
      rw [hm, List.range_succ_eq_map, List.map_cons]
    rw [this, List.mem_map]
    constructor
    · rintro ⟨k, hk, rfl⟩
      exact ⟨k, List.mem_range.mp hk, rfl⟩
    · rintro ⟨k, hk, rfl⟩
      exact ⟨k, List.mem_range.mpr hk, rfl⟩
  obtain ⟨k, hk, rfl⟩ := (hmem q).mp hq
  refine ⟨rot k p, V.def_rt (m := [some (.d (encP p)), none]) (V.seq_rt (V.ret (V.p1 (p := .min) c1 eq) rfl)) rfl, least_rot hk fun j hj => hq2 _ ((hmem _).mpr ⟨j, hj, rfl⟩), rot_len k p, fun t ht => ?_⟩
  unfold rot at ht
  rcases List.mem_append.mp ht with ht | ht
  · exact List.mem_of_mem_drop ht
  · exact List.mem_of_mem_take ht
end Oa

/-! Branches. -/
namespace Oa
open PySem PySem.Spec PyProof.Rows L2
theorem sh_len (k : Int) (u : Tr) : (sh k u).length = u.length := by
  unfold sh
  rw [List.length_map]
theorem sh_get {u : Tr} {i : Nat} {d : Int} (h : u[i]? = some d) : (sh 1 u)[i]? = some (d + 1) := by
  unfold sh
  rw [List.getElem?_map, h]
  rfl
theorem get_drop {t l : Tr} {a i : Nat} (h : t.drop a = l) : t[a + i]? = l[i]? := by
  rw [← h, List.getElem?_drop]
theorem sub1_comp {n a b : Nat} {t u : Tr} {us : List Tr} {fd : Option M} (hl : t.length ≤ 1000) (hd : t.drop a = sh 1 u ++ fo 1 us) (hb : b = a + u.length) (hbl : b ≤ t.length) : (Ex.comp false (.p2 .sub (.var 4) (.int 1)) (.n 4) (.ex (.slB (.var 0) (.var 2) (.var 3))) .nil).ev (lev n) cs0 [some (.d (enc t)), fd, some (.d (.int (a : Int))), some (.d (.int (b : Int))), none] = .ok (.o (.v (u.map .int)), [some (.d (enc t)), fd, some (.d (.int (a : Int))), some (.d (.int (b : Int))), none]) := by
  have s1 : P.slice (some (a : Int)) (some (b : Int)) (.o (.d (enc t))) = .ok (.o (.d (enc (sh 1 u)))) := by
    show Res.ok (Rv.o (.d (.tuple (P.slc _ _ _)))) = _
    rw [slc_enc (by omega) hbl, hd, show b - a = (sh 1 u).length by rw [sh_len]; omega, List.take_left']
    rfl
  have h := V.comp_map (cf := lev n) (cs := cs0) (elt := .p2 .sub (.var 4) (.int 1)) (t := .n 4) (it := .ex (.slB (.var 0) (.var 2) (.var 3))) (m := [some (.d (enc t)), fd, some (.d (.int (a : Int))), some (.d (.int (b : Int))), none]) (m1 := [some (.d (enc t)), fd, some (.d (.int (a : Int))), some (.d (.int (b : Int))), none]) PyData.int (sh 1 u) [some (.d (enc t)), fd, some (.d (.int (a : Int))), some (.d (.int (b : Int))), none] (fun x => [some (.d (enc t)), fd, some (.d (.int (a : Int))), some (.d (.int (b : Int))), some (.d (.int x))]) (fun x => .int (x - 1)) (by simp [S.intF_eq, s1]) rfl (fun x _ => ⟨rfl, rfl, .o (.d (.int (x - 1))), by simp, rfl⟩) (by rw [sh_len]; show _ ≤ 16777216; omega) rfl (fun _ _ => rfl)
  rw [h]
  unfold sh
  rw [List.map_map]
  have : ((fun x : Int => PyData.int (x - 1)) ∘ fun x => x + 1) = PyData.int := by
    funext x
    show PyData.int (x + 1 - 1) = _
    rw [Int.add_sub_cancel]
  rw [this]
  rfl
end Oa

/-! The law's own branches, its own test of a tree. -/
namespace Oa
open PySem PySem.Spec PyProof.Rows L2
abbrev tsM (L : List Tr) : M := .l (L.map fun (t : Tr) => M.v (t.map .int))
def lbB : Sts := Sts.forB (f__law_branches.body.tl.hd)
theorem addTo_l {L : List Tr} (h : L.length < 1000000) : addTo (tsM L) (.o (.v [.int 0])) = some (tsM (L ++ [[0]])) := by
  show (if (L.map fun (t : Tr) => M.v (t.map .int)).length < big then (keepM true (.o (.v [.int 0]))).map fun q => M.l (_ ++ [q]) else none) = _
  rw [if_pos (by rw [List.length_map]; exact Nat.lt_trans h (by decide))]
  show some (M.l _) = some (M.l _)
  rw [List.map_append]
  rfl
theorem ixN_last {n : Nat} (h : 0 < n) : ixN n (-1) = some (n - 1) := by
  unfold ixN
  rw [if_neg (by omega), if_pos (by omega)]
  congr 1
  omega
theorem last_get {L : List Tr} {x : Tr} : ((L ++ [x]).map fun (t : Tr) => M.v (t.map PyData.int))[((L ++ [x]).map fun (t : Tr) => M.v (t.map PyData.int)).length - 1]? = some (.v (x.map .int)) := by
  rw [List.map_append, List.length_append]
  simp
theorem isLV_last {L : List Tr} {x : Tr} : isLV (-1) (tsM (L ++ [x])) = true := by
  show (match ixN ((L ++ [x]).map fun (t : Tr) => M.v (t.map PyData.int)).length (-1) with
    | some i => (match ((L ++ [x]).map fun (t : Tr) => M.v (t.map PyData.int))[i]? with
      | some (.v _) => true
      | _ => false)
    | none => false) = true
  rw [ixN_last (by simp)]
  simp only [last_get]
theorem addAt_last {L : List Tr} {x : Tr} {d : Int} (h : x.length < 1000000) : addAt (tsM (L ++ [x])) (-1) (.o (.d (.int d))) = some (tsM (L ++ [x ++ [d]])) := by
  show (match ixN ((L ++ [x]).map fun (t : Tr) => M.v (t.map PyData.int)).length (-1) with
    | some i => (match ((L ++ [x]).map fun (t : Tr) => M.v (t.map PyData.int))[i]? with
      | some (.v xs) => (addTo (.v xs) (.o (.d (.int d)))).map fun q => M.l (((L ++ [x]).map fun (t : Tr) => M.v (t.map PyData.int)).set i q)
      | _ => none)
    | none => none) = _
  rw [ixN_last (by simp)]
  simp only [last_get]
  rw [addTo_v (by rw [List.length_map]; exact h)]
  show some (M.l _) = some (M.l _)
  have : ((L ++ [x]).map fun (t : Tr) => M.v (t.map PyData.int)).set (((L ++ [x]).map fun (t : Tr) => M.v (t.map PyData.int)).length - 1) (.v (x.map .int ++ [.int d])) = (L ++ [x ++ [d]]).map fun (t : Tr) => M.v (t.map PyData.int) := by
    rw [List.map_append, List.map_append, List.length_append]
    simp
  rw [this]
theorem lb_row {n : Nat} {T : Option M} {R : M} {rest : List D} : ∀ (r x : Tr) (L : List Tr) (st : Option M), (∀ y ∈ r, 1 ≤ y) → x.length + r.length < 1000000 → (∀ st', ∃ y, forF (.n 2) (lbB.runs (lev n) cs0 fuel) rest [T, some (tsM (L ++ [x ++ r])), st', none] = .ok (.nx [T, some R, y, none])) → ∃ y, forF (.n 2) (lbB.runs (lev n) cs0 fuel) ((sh 1 r).map .int ++ rest) [T, some (tsM (L ++ [x])), st, none] = .ok (.nx [T, some R, y, none])
  | [], x, L, st, _, _, K => by
    have := K st
    rw [List.append_nil] at this
    exact this
  | d :: r, x, L, st, hr, hl, K => by
    have hd := hr d List.mem_cons_self
    rw [List.length_cons] at hl
    obtain ⟨y, e⟩ := lb_row (n := n) (T := T) (R := R) (rest := rest) r (x ++ [d]) L (some (.d (.int (d + 1)))) (fun y hy => hr y (List.mem_cons_of_mem _ hy)) (by simp; omega) (by
      intro st'
      have := K st'
      rw [List.append_assoc]
      exact this)
    refine ⟨y, V.for_cons (m1 := [T, some (tsM (L ++ [x])), some (.d (.int (d + 1))), none]) rfl ?_ e⟩
    have hne : ¬ d + 1 = 1 := by omega
    have c1 : (Ex.p2 .eq (.var 2) (.int 1)).ev (lev n) cs0 [T, some (tsM (L ++ [x])), some (.d (.int (d + 1))), none] = .ok (.p (.bool false), [T, some (tsM (L ++ [x])), some (.d (.int (d + 1))), none]) := by
      simp
      omega
    refine V.seq_nx (V.if_f c1 (V.seq_nx (V.appX (k0 := tsM (L ++ [x])) (k := tsM (L ++ [x])) (k' := tsM (L ++ [x ++ [d]])) (j := -1) (r := .o (.d (.int d))) (m1 := [T, some (tsM (L ++ [x])), some (.d (.int (d + 1))), none]) (m2 := [T, some (tsM (L ++ [x])), some (.d (.int (d + 1))), none]) rfl rfl rfl rfl isLV_last ?_ rfl (addAt_last (by omega))) rfl)) rfl
    simp
theorem lb_rows {n : Nat} {T : Option M} : ∀ (us L : List Tr) (st : Option M), (∀ u ∈ us, Sd u) → L.length + us.length < 1000000 → (fo 1 us).length < 1000000 → ∃ y, forF (.n 2) (lbB.runs (lev n) cs0 fuel) ((fo 1 us).map .int) [T, some (tsM L), st, none] = .ok (.nx [T, some (tsM (L ++ us)), y, none])
  | [], L, st, _, _, _ => ⟨st, by rw [List.append_nil]; rfl⟩
  | u :: us, L, st, hs, hl, hf => by
    obtain ⟨r, rfl, hr⟩ := hs u List.mem_cons_self
    rw [fo_cons, List.length_append, sh_len, List.length_cons] at hf
    rw [List.length_cons] at hl
    obtain ⟨y, e⟩ := lb_row (n := n) (T := T) (R := tsM (L ++ (0 :: r) :: us)) (rest := (fo 1 us).map .int) r [0] L (some (.d (.int 1))) hr (by simp; omega) (by
      intro st'
      obtain ⟨y, e⟩ := lb_rows (n := n) (T := T) us (L ++ [[0] ++ r]) st' (fun u h => hs u (List.mem_cons_of_mem _ h)) (by simp; omega) (by omega)
      rw [List.append_assoc] at e
      exact ⟨y, e⟩)
    refine ⟨y, ?_⟩
    rw [fo_cons, sh_cons, List.map_append, List.map_cons, List.cons_append]
    refine V.for_cons (m1 := [T, some (tsM L), some (.d (.int 1)), none]) rfl (V.seq_nx (V.if_t (m1 := [T, some (tsM L), some (.d (.int 1)), none]) rfl (V.seq_nx (V.app (k0 := tsM L) (k := tsM L) (k' := tsM (L ++ [[0]])) (r := .o (.v [.int 0])) (m1 := [T, some (tsM L), some (.d (.int 1)), none]) rfl rfl rfl rfl (addTo_l (by omega))) rfl)) rfl) e
theorem L_lbr {n : Nat} {ts : List Tr} (hs : ∀ t ∈ ts, Sd t) (hl : (0 :: fo 1 ts).length ≤ 1000) : lev (n + 1) "_law_branches" [.d (enc (0 :: fo 1 ts))] = .ok (.o (.v (ts.map enc)), [.d (enc (0 :: fo 1 ts))]) := by
  rw [lv_law_branches]
  have hts : ts.length < 1000 := by
    have h1 : ts.length ≤ (fo 1 ts).length := by
      rw [len_fo]
      exact len_le_sum fun t h => by
        obtain ⟨r, rfl, _⟩ := hs t h
        exact List.cons_ne_nil _ _
    rw [List.length_cons] at hl
    omega
  rw [List.length_cons] at hl
  obtain ⟨y, e⟩ := lb_rows (n := n) (T := some (.d (enc (0 :: fo 1 ts)))) ts [] none hs (by simp; omega) (by omega)
  rw [List.nil_append] at e
  have hdata : (tsM ts).data = .list (ts.map fun (t : Tr) => .list (t.map PyData.int)) := by
    have : ∀ L : List Tr, M.datas (L.map fun (t : Tr) => M.v (t.map PyData.int)) = L.map fun (t : Tr) => .list (t.map PyData.int) := by
      intro L
      induction L with
      | nil => rfl
      | cons t L ih =>
        rw [List.map_cons, M.datas, ih]
        rfl
    show PyData.list (M.datas _) = _
    rw [this]
  have hfine : (tsM ts).fine = true := by
    have : ∀ L : List Tr, M.fines (L.map fun (t : Tr) => M.v (t.map PyData.int)) = true := by
      intro L
      induction L with
      | nil => rfl
      | cons t L ih =>
        rw [List.map_cons, M.fines, ih]
        rfl
    exact this ts
  have hc : (Ex.comp false (.p1 .tuple (.var 3)) (.n 3) (.ex (.frz 1)) .nil).ev (lev n) cs0 [some (.d (enc (0 :: fo 1 ts))), some (tsM ts), y, none] = .ok (.o (.v (ts.map enc)), [some (.d (enc (0 :: fo 1 ts))), some (.d (.list (ts.map fun (t : Tr) => .list (t.map PyData.int)))), y, none]) := by
    refine V.comp_map (m1 := [some (.d (enc (0 :: fo 1 ts))), some (.d (.list (ts.map fun (t : Tr) => .list (t.map PyData.int)))), y, none]) (fun (t : Tr) => PyData.list (t.map PyData.int)) ts [some (.d (enc (0 :: fo 1 ts))), some (.d (.list (ts.map fun (t : Tr) => .list (t.map PyData.int)))), y, none] (fun t => [some (.d (enc (0 :: fo 1 ts))), some (.d (.list (ts.map fun (t : Tr) => .list (t.map PyData.int)))), y, some (.d (.list (t.map PyData.int)))]) enc ?_ rfl (fun t _ => ⟨rfl, rfl, .o (.d (enc t)), rfl, rfl⟩) (by show _ ≤ 16777216; omega) rfl (fun _ _ => rfl)
    simp [hfine, hdata]
  refine V.def_rt (m := [some (.d (enc (0 :: fo 1 ts))), some (.d (.list (ts.map fun (t : Tr) => .list (t.map PyData.int)))), y, none]) ?_ rfl
  refine V.seq_nx (V.set (r := .o (tsM [])) (m1 := [some (.d (enc (0 :: fo 1 ts))), none, none, none]) (m2 := [some (.d (enc (0 :: fo 1 ts))), some (tsM []), none, none]) rfl rfl rfl) ?_
  refine V.seq_nx (V.forS (ds := (fo 1 ts).map .int) (m1 := [some (.d (enc (0 :: fo 1 ts))), some (tsM []), none, none]) ?_ e) ?_
  · have s1 : P.slice (some 1) none (.o (.d (enc (0 :: fo 1 ts)))) = .ok (.o (.d (.tuple ((fo 1 ts).map .int)))) := by
      show Res.ok (Rv.o (.d (.tuple (P.slc _ _ _)))) = _
      rw [List.map_cons, slc1]
    simp [s1]
  · exact V.seq_rt (V.ret hc rfl)
/-! ### branches, tree_of -/
theorem src_items {R : D} {xs : List D} {b pe : Bool} (h : M.items (.d R) = some (b, xs)) : srcF pe (.o (.d R)) = .ok (b, xs) := by
  cases R with
  | list ys => cases h; rfl
  | tuple ys => cases h; rfl
  | _ => cases h
end Oa

/-! The law's own test of a tree. -/
namespace Oa
open PySem PySem.Spec PyProof.Rows L2
theorem stp_at : ∀ {r : List Int} {d0 : Int} {i : Nat} {d e : Int}, Stp1 d0 r → r[i]? = some d → (d0 :: r)[i]? = some e → d ≤ e + 1
  | [], _, _, _, _, _, h, _ => by simp at h
  | x :: r, d0, 0, d, e, h, h1, h2 => by
    simp at h1 h2
    subst h1 h2
    exact h.1
  | x :: r, d0, i + 1, d, e, h, h1, h2 => stp_at (i := i) h.2 (by simpa using h1) (by simpa using h2)
theorem good_step {t : Tr} (h : Good t) {p : Nat} {d e : Int} (hd : t[p + 1]? = some d) (he : t[p]? = some e) : 1 ≤ d ∧ d ≤ e + 1 := by
  obtain ⟨r, rfl, hr⟩ := h.sd
  have h1 : r[p]? = some d := by simpa using hd
  exact ⟨hr d (List.mem_of_getElem? h1), stp_at h.steps0 h1 he⟩
theorem ltB_body {n p : Nat} {t : Tr} {d e : Int} (h1 : 1 ≤ d) (h2 : d ≤ e + 1) (hd : t[p + 1]? = some d) (he : t[p]? = some e) : (Sts.forB (f__law_is_tree.body.tl.hd)).runs (lev (n + 1)) cs0 fuel [some (.d (enc t)), some (.d (.int ((p + 1 : Nat) : Int))), none, none] = .ok (.nx [some (.d (enc t)), some (.d (.int ((p + 1 : Nat) : Int))), none, none]) := by
  have a1 := at_t hd
  have a2 : atI (t.map PyData.int) (((p + 1 : Nat) : Int) - 1) = some (.int e) := by
    rw [show ((p + 1 : Nat) : Int) - 1 = ((p : Nat) : Int) by omega]
    exact at_t he
  have i1 : (Ex.p2 .idx (.var 0) (.var 1)).ev (lev (n + 1)) cs0 [some (.d (enc t)), some (.d (.int ((p + 1 : Nat) : Int))), none, none] = .ok (.o (.d (.int d)), [some (.d (enc t)), some (.d (.int ((p + 1 : Nat) : Int))), none, none]) := by
    simp only [S.ev_p2, S.ev_var, List.getElem?_cons_zero, List.getElem?_cons_succ, S.vr_some, S.look_d, Res.bind_ok, S.isB_o, Bool.false_and, Bool.false_eq_true, if_false, S.f_idx, q_idx_enc, a1, S.o3_some]
  have i2 : (Ex.p2 .idx (.var 0) (.p2 .sub (.var 1) (.int 1))).ev (lev (n + 1)) cs0 [some (.d (enc t)), some (.d (.int ((p + 1 : Nat) : Int))), none, none] = .ok (.o (.d (.int e)), [some (.d (enc t)), some (.d (.int ((p + 1 : Nat) : Int))), none, none]) := by
    simp only [S.ev_p2, S.ev_var, S.ev_int, List.getElem?_cons_zero, List.getElem?_cons_succ, S.vr_some, S.look_d, Res.bind_ok, S.isB_o, Bool.false_and, Bool.false_eq_true, if_false, S.f_idx, S.f_sub, S.q_sub, q_idx_enc, a2, S.o3_some]
  have c1 : (Ex.call "_law_is_integer" (.r (.p2 .idx (.var 0) (.var 1)) .nil)).ev (lev (n + 1)) cs0 [some (.d (enc t)), some (.d (.int ((p + 1 : Nat) : Int))), none, none] = .ok (.p (.bool true), [some (.d (enc t)), some (.d (.int ((p + 1 : Nat) : Int))), none, none]) := S.call_d i1 L_lint
  have c2 : (Ex.cmp2 .le .le (.int 1) (.p2 .idx (.var 0) (.var 1)) (.p2 .add (.p2 .idx (.var 0) (.p2 .sub (.var 1) (.int 1))) (.int 1))).ev (lev (n + 1)) cs0 [some (.d (enc t)), some (.d (.int ((p + 1 : Nat) : Int))), none, none] = .ok (.p (.bool true), [some (.d (enc t)), some (.d (.int ((p + 1 : Nat) : Int))), none, none]) := by
    rw [S.ev_cmp2, S.ev_int]
    simp only [Res.bind_ok, S.m_o, S.int_i, S.i3_some, i1, S.cmpI_le, decide_eq_true h1, S.b3_some, if_true]
    rw [S.ev_p2, i2]
    simp only [Res.bind_ok, S.ev_int, S.isB_o, Bool.false_and, Bool.false_eq_true, if_false, S.f_add, S.q_add, S.m_o, S.int_i, S.i3_some, decide_eq_true h2, S.n3_some]
  exact V.seq_nx (V.if_f (V.or_f (V.not c1) (V.not c2)) rfl) rfl
theorem lt_for {n : Nat} {t : Tr} (h : Good t) : ∀ (k p : Nat) (x : Option M), p + k = t.length → 1 ≤ p → ∃ y, forF (.n 1) ((Sts.forB (f__law_is_tree.body.tl.hd)).runs (lev (n + 1)) cs0 fuel) (rngList (p : Int) (t.length : Nat)) [some (.d (enc t)), x, none, none] = .ok (.nx [some (.d (enc t)), y, none, none])
  | 0, p, x, hk, hp => ⟨x, by rw [rng_nil (by omega)]; rfl⟩
  | k + 1, p, x, hk, hp => by
    obtain ⟨q, rfl⟩ : ∃ q, p = q + 1 := ⟨p - 1, by omega⟩
    obtain ⟨d, hd⟩ : ∃ d, t[q + 1]? = some d := ⟨_, List.getElem?_eq_getElem (by omega)⟩
    obtain ⟨e, he⟩ : ∃ d, t[q]? = some d := ⟨_, List.getElem?_eq_getElem (by omega)⟩
    obtain ⟨h1, h2⟩ := good_step h hd he
    obtain ⟨y, ey⟩ := lt_for (n := n) h k (q + 1 + 1) (some (.d (.int ((q + 1 : Nat) : Int)))) (by omega) (by omega)
    refine ⟨y, ?_⟩
    rw [rng_cons (by omega)]
    exact V.for_cons (m1 := [some (.d (enc t)), some (.d (.int ((q + 1 : Nat) : Int))), none, none]) rfl (ltB_body h1 h2 hd he) ey
theorem rng1_map (m : Nat) : rngList 1 (m : Int) = (List.range (m - 1)).map fun i => .int ((i + 1 : Nat) : Int) := by
  unfold rngList
  rw [show ((m : Int) - 1).toNat = m - 1 by omega]
  exact List.map_congr_left fun i _ => congrArg PyData.int (by omega)
theorem lt_comp {n : Nat} {t : Tr} {ts : List Tr} (hf : ts.Pairwise fun a b => b ≤ a) (hl : ts.length < 1000) (x : Option M) : ∃ y, (Ex.comp false (.frz 1) (.n 1) (.rng2 (.int 1) (.p1 .len (.var 2))) (.cons (.p2 .lt (.p2 .idx (.var 2) (.p2 .sub (.var 1) (.int 1))) (.p2 .idx (.var 2) (.var 1))) .nil)).ev (lev n) cs0 [some (.d (enc t)), x, some (.v (ts.map enc)), none] = .ok (.o (.v []), [some (.d (enc t)), y, some (.v (ts.map enc)), none]) := by
  refine ⟨pureAt [some (.d (enc t)), x, some (.v (ts.map enc)), none] 1, ?_⟩
  have h := V.comp_filter (cf := lev n) (cs := cs0) (elt := .frz 1) (t := .n 1) (it := .rng2 (.int 1) (.p1 .len (.var 2))) (cd := .cons (.p2 .lt (.p2 .idx (.var 2) (.p2 .sub (.var 1) (.int 1))) (.p2 .idx (.var 2) (.var 1))) .nil) (m := [some (.d (enc t)), x, some (.v (ts.map enc)), none]) (m1 := [some (.d (enc t)), x, some (.v (ts.map enc)), none]) (mf := [some (.d (enc t)), pureAt [some (.d (enc t)), x, some (.v (ts.map enc)), none] 1, some (.v (ts.map enc)), none]) (fun i : Nat => .int ((i + 1 : Nat) : Int)) (List.range (ts.length - 1)) [some (.d (enc t)), none, some (.v (ts.map enc)), none] (fun i => [some (.d (enc t)), some (.d (.int ((i + 1 : Nat) : Int))), some (.v (ts.map enc)), none]) (fun _ => false) (fun i => .int (i : Int)) ?_ rfl (fun i hi => ⟨rfl, rfl, ?_, fun e => by cases e⟩) (by rw [List.length_range]; show _ ≤ 16777216; omega) rfl (fun _ _ => rfl)
  · have e0 : ((List.range (ts.length - 1)).filter fun _ => false) = [] := List.filter_eq_nil_iff.mpr fun _ _ => by simp
    rw [e0] at h
    exact h
  · rw [← rng1_map]
    exact S.rng2_of (m1 := [some (.d (enc t)), x, some (.v (ts.map enc)), none]) rfl (by simp) (by omega) (by omega) (by omega) (by omega)
  · have hi2 := List.mem_range.mp hi
    obtain ⟨a, ea⟩ : ∃ a, ts[i]? = some a := ⟨_, List.getElem?_eq_getElem (by omega)⟩
    obtain ⟨b, eb⟩ : ∃ b, ts[i + 1]? = some b := ⟨_, List.getElem?_eq_getElem (by omega)⟩
    have hab : ¬ a < b := by
      obtain ⟨ha, ea⟩ := List.getElem?_eq_some_iff.mp ea
      obtain ⟨hb, eb⟩ := List.getElem?_eq_some_iff.mp eb
      have := List.pairwise_iff_getElem.mp hf i (i + 1) ha hb (by omega)
      rw [ea, eb] at this
      exact this
    have a1 : atI (ts.map enc) ((i + 1 : Nat) : Int) = some (enc b) := at_get (by rw [List.getElem?_map, eb]; rfl)
    have a2 : atI (ts.map enc) (((i + 1 : Nat) : Int) - 1) = some (enc a) := by
      rw [show ((i + 1 : Nat) : Int) - 1 = ((i : Nat) : Int) by omega]
      exact at_get (by rw [List.getElem?_map, ea]; rfl)
    have i1 : (Ex.p2 .idx (.var 2) (.var 1)).ev (lev n) cs0 [some (.d (enc t)), some (.d (.int ((i + 1 : Nat) : Int))), some (.v (ts.map enc)), none] = .ok (.o (.d (enc b)), [some (.d (enc t)), some (.d (.int ((i + 1 : Nat) : Int))), some (.v (ts.map enc)), none]) := by
      simp only [S.ev_p2, S.ev_var, List.getElem?_cons_zero, List.getElem?_cons_succ, S.vr_some, S.look_d, S.look_v, Res.bind_ok, S.isB_o, S.isB_b, S.pu_var, Bool.not_true, Bool.and_false, Bool.false_eq_true, if_false, S.f_idx, S.q_idx_bv, a1, S.o3_some]
    have i2 : (Ex.p2 .idx (.var 2) (.p2 .sub (.var 1) (.int 1))).ev (lev n) cs0 [some (.d (enc t)), some (.d (.int ((i + 1 : Nat) : Int))), some (.v (ts.map enc)), none] = .ok (.o (.d (enc a)), [some (.d (enc t)), some (.d (.int ((i + 1 : Nat) : Int))), some (.v (ts.map enc)), none]) := by
      simp only [S.ev_p2, S.ev_var, S.ev_int, List.getElem?_cons_zero, List.getElem?_cons_succ, S.vr_some, S.look_d, S.look_v, Res.bind_ok, S.isB_o, S.isB_b, S.pu_p2, S.pu_var, S.pu_int, Bool.and_self, Bool.false_and, Bool.not_true, Bool.and_false, Bool.false_eq_true, if_false, S.f_idx, S.f_sub, S.q_sub, S.q_idx_bv, a2, S.o3_some]
    show (((Ex.p2 .lt (.p2 .idx (.var 2) (.p2 .sub (.var 1) (.int 1))) (.p2 .idx (.var 2) (.var 1))).ev (lev n) cs0 _).bind _) = _
    rw [V.p2 (p := .lt) i2 i1 rfl (q_lt_enc a b), decide_eq_false hab]
    rfl
theorem L_lis : ∀ (n : Nat) {t : Tr}, Good t → t.length ≤ n → t.length ≤ 1000 → lev (n + 2) "_law_is_tree" [.d (enc t)] = .ok (.o (.d (.bool true)), [.d (enc t)])
  | 0, t, hg, hn, _ => by
    obtain ⟨r, rfl, _⟩ := hg.sd
    simp at hn
  | n + 1, t, hg, hn, hl => by
    rw [lv_law_is_tree]
    obtain ⟨ts, hts, hgs, hpw⟩ : ∃ ts : List Tr, t = 0 :: fo 1 ts ∧ (∀ u ∈ ts, Good u) ∧ ts.Pairwise fun a b => b ≤ a := by
      cases hg with
      | mk ts h f => exact ⟨ts, rfl, h, f⟩
    have hlen : t.length = 1 + (ts.map List.length).sum := by
      rw [hts, List.length_cons, len_fo]
      omega
    have hne : ∀ u ∈ ts, u ≠ [] := fun u h => (hgs u h).ne
    have hsub : ∀ u ∈ ts, u.length ≤ n ∧ u.length ≤ 1000 := by
      have h2 : ∀ (us : List Tr), ∀ t ∈ us, t.length ≤ (us.map List.length).sum := by
        intro us
        induction us with
        | nil => intro t h; cases h
        | cons u us ih =>
          intro t h
          rw [List.map_cons, List.sum_cons]
          rcases List.mem_cons.mp h with rfl | h
          · omega
          · have := ih t h
            omega
      intro u hu
      have := h2 ts u hu
      exact ⟨by omega, by omega⟩
    have hcnt := len_le_sum hne
    have hbr : lev (n + 2) "_law_branches" [.d (enc t)] = .ok (.o (.v (ts.map enc)), [.d (enc t)]) := by
      rw [hts]
      exact L_lbr (n := n + 1) (fun u h => (hgs u h).sd) (by rw [← hts]; exact hl)
    obtain ⟨y, ef⟩ := lt_for (n := n + 1) hg (t.length - 1) 1 none (by omega) (Nat.le_refl _)
    obtain ⟨z, ec⟩ := lt_comp (n := n + 2) (t := t) hpw (by omega) y
    have hat : atI (t.map PyData.int) 0 = some (.int 0) := by
      rw [hts]
      exact at_get (k := 0) rfl
    have i1 : (Ex.p2 .idx (.var 0) (.int 0)).ev (lev (n + 2)) cs0 [some (.d (enc t)), none, none, none] = .ok (.o (.d (.int 0)), [some (.d (enc t)), none, none, none]) := by
      simp only [S.ev_p2, S.ev_var, S.ev_int, List.getElem?_cons_zero, List.getElem?_cons_succ, S.vr_some, S.look_d, Res.bind_ok, S.isB_o, Bool.false_and, Bool.false_eq_true, if_false, S.f_idx, q_idx_enc, hat, S.o3_some]
    have c0 : (Ex.isi (.var 0) "tuple").ev (lev (n + 2)) cs0 [some (.d (enc t)), none, none, none] = .ok (.p (.bool true), [some (.d (enc t)), none, none, none]) := by simp
    have c1 : (Ex.p2 .eq (.p1 .len (.var 0)) (.int 0)).ev (lev (n + 2)) cs0 [some (.d (enc t)), none, none, none] = .ok (.p (.bool false), [some (.d (enc t)), none, none, none]) := by
      have : ¬ ((t.length : Nat) : Int) = 0 := by omega
      simp only [S.ev_p2, S.ev_p1, S.ev_var, S.ev_int, List.getElem?_cons_zero, S.vr_some, S.look_d, Res.bind_ok, S.f_len, q_len_enc, S.isB_o, Bool.false_and, Bool.false_eq_true, if_false, S.f_eq, S.q_eq, decide_eq_false this]
    have c2 : (Ex.call "_law_is_integer" (.r (.p2 .idx (.var 0) (.int 0)) .nil)).ev (lev (n + 2)) cs0 [some (.d (enc t)), none, none, none] = .ok (.p (.bool true), [some (.d (enc t)), none, none, none]) := S.call_d i1 L_lint
    have c3 : (Ex.p2 .ne (.p2 .idx (.var 0) (.int 0)) (.int 0)).ev (lev (n + 2)) cs0 [some (.d (enc t)), none, none, none] = .ok (.p (.bool false), [some (.d (enc t)), none, none, none]) := V.p2 (p := .ne) i1 rfl rfl (S.q_ne (i := 0) (j := 0))
    have c4 : (Ex.comp false (.call "_law_is_tree" (.r (.var 3) .nil)) (.n 3) (.ex (.var 2)) .nil).ev (lev (n + 2)) cs0 [some (.d (enc t)), z, some (.v (ts.map enc)), none] = .ok (.o (.v (ts.map fun _ => .bool true)), [some (.d (enc t)), z, some (.v (ts.map enc)), none]) := by
      refine V.comp_map (m1 := [some (.d (enc t)), z, some (.v (ts.map enc)), none]) enc ts [some (.d (enc t)), z, some (.v (ts.map enc)), none] (fun u => [some (.d (enc t)), z, some (.v (ts.map enc)), some (.d (enc u))]) (fun _ => .bool true) ?_ rfl (fun u hu => ⟨rfl, rfl, .o (.d (.bool true)), S.call_d rfl (L_lis n (hgs u hu) (hsub u hu).1 (hsub u hu).2), rfl⟩) (by show _ ≤ 16777216; omega) rfl (fun _ _ => rfl)
      rw [S.evi_ex]
      simp only [S.ev_var, List.getElem?_cons_zero, List.getElem?_cons_succ, S.vr_some, S.look_v, Res.bind_ok, S.pu_call, S.pua_r, S.pu_var, S.pua_nil, S.pus_nil, Bool.and_self, S.g_seq_bv]
    refine V.def_rt (m := [some (.d (enc t)), z, some (.v (ts.map enc)), none]) ?_ rfl
    refine V.seq_nx (m1 := [some (.d (enc t)), none, none, none]) (V.if_f (V.or_f (V.not c0) (V.or_f c1 (V.or_f (V.not c2) c3))) rfl) ?_
    refine V.seq_nx (V.forS (ds := rngList 1 (t.length : Nat)) (m1 := [some (.d (enc t)), none, none, none]) (S.rng2_of (i := 1) (j := (t.length : Nat)) (m1 := [some (.d (enc t)), none, none, none]) rfl (by simp) (by omega) (by omega) (by omega) (by omega)) ef) ?_
    refine V.seq_nx (V.set (r := .o (.v (ts.map enc))) (m1 := [some (.d (enc t)), y, none, none]) (m2 := [some (.d (enc t)), y, some (.v (ts.map enc)), none]) (S.call_d rfl hbr) rfl rfl) ?_
    refine V.seq_nx (m1 := [some (.d (enc t)), z, some (.v (ts.map enc)), none]) (V.if_f (V.p2 (p := .gt) (V.p1 (p := .len) ec rfl) rfl rfl (S.q_gt (i := 0) (j := 0))) rfl) ?_
    exact V.seq_rt (V.ret (V.p1 (p := .all) c4 (all_map ts)) rfl)
end Oa

/-! What is a tree, what is none. -/
namespace Oa
open PySem PySem.Spec PyProof.Rows L2
theorem lv_is_heap {n : Nat} {ks : List M} : lev (n + 1) "is_heap" ks = fnF (lev n) cs0 fuel f_is_heap ks := rfl
theorem lv_law_flag {n : Nat} {ks : List M} : lev (n + 1) "_law_flag" ks = fnF (lev n) cs0 fuel f__law_flag ks := rfl
theorem lv_law_put {n : Nat} {ks : List M} : lev (n + 1) "_law_put" ks = fnF (lev n) cs0 fuel f__law_put ks := rfl
theorem lv_law_is_piece {n : Nat} {ks : List M} : lev (n + 1) "_law_is_piece" ks = fnF (lev n) cs0 fuel f__law_is_piece ks := rfl
theorem lv_law_deep {n : Nat} {ks : List M} : lev (n + 1) "_law_deep" ks = fnF (lev n) cs0 fuel f__law_deep ks := rfl
theorem lv_law_word {n : Nat} {ks : List M} : lev (n + 1) "_law_word" ks = fnF (lev n) cs0 fuel f__law_word ks := rfl
theorem lv_law_bent {n : Nat} {ks : List M} : lev (n + 1) "_law_bent" ks = fnF (lev n) cs0 fuel f__law_bent ks := rfl
theorem lv_law_can_be_key {n : Nat} {ks : List M} : lev (n + 1) "_law_can_be_key" ks = fnF (lev n) cs0 fuel f__law_can_be_key ks := rfl
namespace V
variable {cf : CfT} {cs : Str → Option D} {fu : Nat}
theorem v_d {i : Nat} {m : Sl} {d : D} (h : m[i]? = some (some (.d d))) : (Ex.var i).ev cf cs m = .ok (.o (.d d), m) := by rw [S.ev_var, h]; rfl
/-! errors -/
theorem rai {c : Str} {m : Sl} : (St.rai c).run cf cs fu m = .er c none := rfl
theorem seq_er {s : St} {r : Sts} {m : Sl} {c : Str} {x : Option Int} (h : s.run cf cs fu m = .er c x) : (Sts.cons s r).runs cf cs fu m = .er c x := by
  show (match s.run cf cs fu m with
  | .ok (.nx m1) => r.runs cf cs fu m1
  | x => x) = _
  rw [h]
theorem def_er {fn : Fn} {ks : List M} {c : Str} {x : Option Int} (h : fn.body.runs cf cs fu (slots0 fn.N.length ks) = .er c x) : fnF cf cs fu fn ks = .er c x := by
  unfold fnF
  rw [h]
  rfl
theorem ex_er {e : Ex} {m : Sl} {c : Str} {x : Option Int} (h : e.ev cf cs m = .er c x) : (St.ex e).run cf cs fu m = .er c x := by
  show ((e.ev cf cs m).bind fun (_, m1) => Res.ok (Out.nx m1)) = _
  rw [h]
  rfl
theorem call_er {f : Str} {es : Ars} {m m1 m2 : Sl} {as : List Arg} {ks : List M} {c : Str} {x : Option Int} (h : es.eva cf cs m = .ok (as, m1)) (hL : (looks as && hasW as) = false) (hH : hand as m1 = some (ks, m2)) (hC : cf f ks = .er c x) : (Ex.call f es).ev cf cs m = .er c x := by
  show ((es.eva cf cs m).bind fun (as, m1) => callWith cf f as m1) = _
  rw [h]
  show callWith cf f as m1 = _
  unfold callWith
  simp only [hL, hH, hC, Res.bind_er, Bool.false_eq_true, if_false]
theorem tri_nx {b : Sts} {as : List Nat} {hs : List (Str × Nat × Atm)} {kn : List Str} {m m1 : Sl} (h : b.runs cf cs fu m = .ok (.nx m1)) : (St.tri b as hs kn).run cf cs fu m = .ok (.nx m1) := by
  show triF as hs kn (b.runs cf cs fu) m = _
  unfold triF
  rw [h]
theorem tri_er {b : Sts} {as : List Nat} {hs : List (Str × Nat × Atm)} {kn : List Str} {m m1 : Sl} {c : Str} {x : Option Int} {i : Nat} {a : Atm} (h : b.runs cf cs fu m = .er c x) (hk : c ∈ kn) (hf : hfind c hs = some (i, a)) (hp : putS i (.d a.d) (cleanF as 0 m) = some m1) : (St.tri b as hs kn).run cf cs fu m = .ok (.nx m1) := by
  show triF as hs kn (b.runs cf cs fu) m = _
  unfold triF
  rw [h]
  show (if c ∈ kn then (match hfind c hs with
    | some (i, d) => outN (putS i (.d d.d) (cleanF as 0 m))
    | none => .er c x) else .bad) = _
  rw [if_pos hk, hf]
  show outN (putS i (.d a.d) (cleanF as 0 m)) = _
  rw [hp]
  rfl
end V
/-! ### all of some flags -/
theorem bls_map {β : Type} (f : β → Bool) : ∀ l : List β, Oa.P.blsOf (l.map fun x => .bool (f x)) = some (l.map f)
  | [] => rfl
  | x :: l => by
    show (Oa.P.blsOf (l.map fun x => .bool (f x))).map _ = _
    rw [bls_map f l]
    rfl
theorem all_bools {β : Type} (f : β → Bool) (l : List β) : P.all [.o (.v (l.map fun x => .bool (f x)))] = .ok (.o (.d (.bool (l.all f)))) := by
  show (match Oa.P.blsOf (l.map fun x => PyData.bool (f x)) with
    | some bs => Res.ok (Rv.p (.bool (bs.all id)))
    | none => .bad) = _
  rw [bls_map]
  show Res.ok (Rv.p (.bool ((l.map f).all id))) = _
  rw [List.all_map]
  rfl
/-! ### integers -/
def isI (d : D) : Bool := P.isTy (P.tyOf d) "int" && !P.isTy (P.tyOf d) "bool"
theorem L_isi {n : Nat} (d : D) : lev (n + 1) "is_integer" [.d d] = .ok (.o (.d (.bool (isI d))), [.d d]) := by
  rw [lv_is_integer]
  refine V.def_rt (m := [some (.d d)]) ?_ rfl
  have i1 : (Ex.isi (.var 0) "int").ev (lev n) cs0 [some (.d d)] = .ok (.p (.bool (P.isTy (P.tyOf d) "int")), [some (.d d)]) := V.isi rfl S.q_isi
  have i2 : (Ex.not (.isi (.var 0) "bool")).ev (lev n) cs0 [some (.d d)] = .ok (.p (.bool (!P.isTy (P.tyOf d) "bool")), [some (.d d)]) := V.not (V.isi rfl S.q_isi)
  refine V.seq_rt (V.ret (r := .p (.bool (isI d))) ?_ rfl)
  unfold isI
  cases h : P.isTy (P.tyOf d) "int" with
  | false =>
    rw [h] at i1
    exact V.and_f i1
  | true =>
    rw [h] at i1
    rw [Bool.true_and]
    exact V.and_t i1 i2
theorem L_lisi {n : Nat} (d : D) : lev (n + 1) "_law_is_integer" [.d d] = .ok (.o (.d (.bool (isI d))), [.d d]) := by
  rw [lv_law_is_integer]
  refine V.def_rt (m := [some (.d d)]) ?_ rfl
  have i1 : (Ex.isi (.var 0) "int").ev (lev n) cs0 [some (.d d)] = .ok (.p (.bool (P.isTy (P.tyOf d) "int")), [some (.d d)]) := V.isi rfl S.q_isi
  have i2 : (Ex.not (.isi (.var 0) "bool")).ev (lev n) cs0 [some (.d d)] = .ok (.p (.bool (!P.isTy (P.tyOf d) "bool")), [some (.d d)]) := V.not (V.isi rfl S.q_isi)
  refine V.seq_rt (V.ret (r := .p (.bool (isI d))) ?_ rfl)
  unfold isI
  cases h : P.isTy (P.tyOf d) "int" with
  | false =>
    rw [h] at i1
    exact V.and_f i1
  | true =>
    rw [h] at i1
    rw [Bool.true_and]
    exact V.and_t i1 i2
theorem isI_i (i : Int) : isI (.int i) = true := by
  show (P.isTy "int" "int" && !P.isTy "int" "bool") = true
  decide
theorem isI_not {d : D} (h : ∀ i, d ≠ .int i) : isI d = false := by
  cases d with
  | int i => exact absurd rfl (h i)
  | none =>
    show (P.isTy "NoneType" "int" && !P.isTy "NoneType" "bool") = false
    decide
  | bool b =>
    show (P.isTy "bool" "int" && !P.isTy "bool" "bool") = false
    decide
  | str b =>
    show (P.isTy "str" "int" && !P.isTy "str" "bool") = false
    decide
  | list b =>
    show (P.isTy "list" "int" && !P.isTy "list" "bool") = false
    decide
  | tuple b =>
    show (P.isTy "tuple" "int" && !P.isTy "tuple" "bool") = false
    decide
  | dict b =>
    show (P.isTy "dict" "int" && !P.isTy "dict" "bool") = false
    decide
/-! ### trees -/
noncomputable def isTr (x : D) : Bool := @decide (∃ t, x = enc t ∧ Good t) (Classical.propDecidable _)
theorem isTr_good {t : Tr} (h : Good t) : isTr (enc t) = true := by
  unfold isTr
  exact @decide_eq_true _ (Classical.propDecidable _) ⟨t, rfl, h⟩
theorem isTr_of {x : D} (h : isTr x = true) : ∃ t, x = enc t ∧ Good t := by
  unfold isTr at h
  exact @of_decide_eq_true _ (Classical.propDecidable _) h
theorem enc_inj {a b : Tr} (h : enc a = enc b) : a = b := by
  have e := eqv_enc a b
  rw [h, eqv_enc b b, decide_eq_true rfl] at e
  exact of_decide_eq_true e.symm
structure TT (x : D) : Prop where
  pr : ∀ n, lev (n + 3) "is_tree" [.d x] = .ok (.o (.d (.bool (isTr x))), [.d x])
  la : ∀ n, lev (n + 50) "_law_is_tree" [.d x] = .ok (.o (.d (.bool (isTr x))), [.d x])
  len : ∀ t, x = enc t → t.length ≤ 40
theorem TT.good {t : Tr} (h : Good t) (hl : t.length ≤ 40) : TT (enc t) := by
  refine ⟨fun n => ?_, fun n => ?_, fun u e => ?_⟩
  · rw [isTr_good h]
    exact L_isT h (by omega)
  · rw [isTr_good h]
    exact L_lis (n + 48) h (by omega) (by omega)
  · rw [← enc_inj e]
    exact hl
theorem isTr_not {x : D} (hl : ∀ t, x = enc t → t.length ≤ 40) (h : lev (0 + 3) "is_tree" [.d x] = .ok (.o (.d (.bool false)), [.d x])) : isTr x = false := by
  cases e : isTr x with
  | false => rfl
  | true =>
    obtain ⟨t, rfl, hg⟩ := isTr_of e
    have q := L_isT (n := 0) hg (by have := hl t rfl; omega)
    rw [q] at h
    cases h
theorem TT.not_ {x : D} (hl : ∀ t, x = enc t → t.length ≤ 40) (h : ∀ n, lev (n + 3) "is_tree" [.d x] = .ok (.o (.d (.bool false)), [.d x])) (g : ∀ n, lev (n + 50) "_law_is_tree" [.d x] = .ok (.o (.d (.bool false)), [.d x])) : TT x := by
  have e := isTr_not hl (h 0)
  exact ⟨fun n => by rw [e]; exact h n, fun n => by rw [e]; exact g n, hl⟩
theorem enc_tupl (t : Tr) : enc t = .tuple (t.map .int) := rfl
/-- no tuple -/
theorem TT.nt {x : D} (h : P.isTy (P.tyOf x) "tuple" = false) : TT x := by
  refine .not_ (fun t e => ?_) (fun n => ?_) (fun n => ?_)
  · subst e
    exact absurd h (by show ¬ P.isTy "tuple" "tuple" = false; decide)
  · rw [lv_is_tree]
    refine V.def_rt (m := [some (.d x)]) ?_ rfl
    have q : lev (n + 2) "is_depth_row" [.d x] = .ok (.o (.d (.bool false)), [.d x]) := by
      rw [lv_is_depth_row]
      refine V.def_rt (m := [some (.d x), none, none]) ?_ rfl
      have i1 : (Ex.isi (.var 0) "tuple").ev (lev (n + 1)) cs0 [some (.d x), none, none] = .ok (.p (.bool false), [some (.d x), none, none]) := by
        rw [← h]
        exact V.isi rfl S.q_isi
      exact V.seq_rt (V.if_t (V.or_t (V.not i1)) (V.seq_rt (V.ret (r := .p (.bool false)) (m1 := [some (.d x), none, none]) rfl rfl)))
    exact V.seq_rt (V.ret (V.and_f (S.call_d rfl q)) rfl)
  · rw [lv_law_is_tree]
    refine V.def_rt (m := [some (.d x), none, none, none]) ?_ rfl
    have i1 : (Ex.isi (.var 0) "tuple").ev (lev (n + 49)) cs0 [some (.d x), none, none, none] = .ok (.p (.bool false), [some (.d x), none, none, none]) := by
      rw [← h]
      exact V.isi rfl S.q_isi
    exact V.seq_rt (V.if_t (V.or_t (V.not i1)) (V.seq_rt (V.ret (r := .p (.bool false)) (m1 := [some (.d x), none, none, none]) rfl rfl)))
/-- a tuple whose first item is no integer -/
theorem TT.odd {y : D} {ys : List D} (h : isI y = false) (hl : (y :: ys).length ≤ 40) : TT (.tuple (y :: ys)) := by
  have e1 : ∀ {n : Nat} {m1 : Sl}, (Ex.var 0).ev (lev n) cs0 (some (.d (.tuple (y :: ys))) :: m1) = .ok (.o (.d (.tuple (y :: ys))), some (.d (.tuple (y :: ys))) :: m1) := rfl
  refine .not_ (fun t e => ?_) (fun n => ?_) (fun n => ?_)
  · rw [enc_tupl] at e
    injection e with e
    have := congrArg List.length e
    rw [List.length_map] at this
    omega
  · rw [lv_is_tree]
    refine V.def_rt (m := [some (.d (.tuple (y :: ys)))]) ?_ rfl
    have q : lev (n + 2) "is_depth_row" [.d (.tuple (y :: ys))] = .ok (.o (.d (.bool false)), [.d (.tuple (y :: ys))]) := by
      rw [lv_is_depth_row]
      let m : Sl := [some (.d (.tuple (y :: ys))), none, none]
      refine V.def_rt (m := m) ?_ rfl
      have i1 : (Ex.isi (.var 0) "tuple").ev (lev (n + 1)) cs0 m = .ok (.p (.bool true), m) := V.isi rfl rfl
      have i2 : (Ex.p2 .eq (.p1 .len (.var 0)) (.int 0)).ev (lev (n + 1)) cs0 m = .ok (.p (.bool false), m) := by
        have := V.p2 (cf := lev (n + 1)) (cs := cs0) (p := .eq) (a := .p1 .len (.var 0)) (b := .int 0) (m := m) (V.p1 (p := .len) (m1 := m) rfl S.q_len_t) (q := .o (.d (.int 0))) (m2 := m) rfl rfl S.q_eq
        rw [decide_eq_false (by rw [List.length_cons]; omega)] at this
        exact this
      have i3 : (Ex.p1 .all (.comp false (.call "is_integer" (.r (.var 1) .nil)) (.n 1) (.ex (.var 0)) .nil)).ev (lev (n + 1)) cs0 m = .ok (.p (.bool false), m) := by
        have c := V.comp_map (cf := lev (n + 1)) (cs := cs0) (elt := .call "is_integer" (.r (.var 1) .nil)) (t := .n 1) (it := .ex (.var 0)) (m := m) (m1 := m) (mf := m) (id : D → D) (y :: ys) m (fun d => [some (.d (.tuple (y :: ys))), some (.d d), none]) (fun d => .bool (isI d)) (by rw [List.map_id]; rfl) rfl (fun d _ => ⟨rfl, rfl, .o (.d (.bool (isI d))), S.call_d rfl (L_isi d), rfl⟩) (Nat.le_trans hl (by decide)) rfl (fun _ _ => rfl)
        have := V.p1 (p := .all) c (all_bools isI (y :: ys))
        rw [List.all_cons, h, Bool.false_and] at this
        exact this
      exact V.seq_rt (V.if_t (V.or_f (V.not i1) (V.or_f i2 (V.not i3))) (V.seq_rt (V.ret (r := .p (.bool false)) (m1 := m) rfl rfl)))
    exact V.seq_rt (V.ret (V.and_f (S.call_d rfl q)) rfl)
  · rw [lv_law_is_tree]
    let m : Sl := [some (.d (.tuple (y :: ys))), none, none, none]
    refine V.def_rt (m := m) ?_ rfl
    have i1 : (Ex.isi (.var 0) "tuple").ev (lev (n + 49)) cs0 m = .ok (.p (.bool true), m) := V.isi rfl rfl
    have i2 : (Ex.p2 .eq (.p1 .len (.var 0)) (.int 0)).ev (lev (n + 49)) cs0 m = .ok (.p (.bool false), m) := by
      have := V.p2 (cf := lev (n + 49)) (cs := cs0) (p := .eq) (a := .p1 .len (.var 0)) (b := .int 0) (m := m) (V.p1 (p := .len) (m1 := m) rfl S.q_len_t) (q := .o (.d (.int 0))) (m2 := m) rfl rfl S.q_eq
      rw [decide_eq_false (by rw [List.length_cons]; omega)] at this
      exact this
    have i3 : (Ex.call "_law_is_integer" (.r (.p2 .idx (.var 0) (.int 0)) .nil)).ev (lev (n + 49)) cs0 m = .ok (.p (.bool false), m) := by
      rw [← h]
      exact S.call_d (m1 := m) (V.p2 (p := .idx) (m1 := m) (r := .o (.d (.tuple (y :: ys)))) rfl (q := .o (.d (.int 0))) (m2 := m) rfl rfl (by rw [S.f_idx, S.q_idx_t, show atI (y :: ys) 0 = some y from at_nat (xs := y :: ys) (n := 0) (by rw [List.length_cons]; omega)]; rfl)) (L_lisi y)
    exact V.seq_rt (V.if_t (V.or_f (V.not i1) (V.or_f i2 (V.or_t (V.not i3)))) (V.seq_rt (V.ret (r := .p (.bool false)) (m1 := m) rfl rfl)))
/-! ### the odd ones -/
theorem TT.c0 : TT (.tuple []) := .not_ (fun t e => by
  rw [enc_tupl] at e
  injection e with e
  have := congrArg List.length e
  rw [List.length_map] at this
  simp at this
  omega) (fun n => rfl) (fun n => rfl)
theorem tup_short {xs : List D} (h : xs.length ≤ 40) : ∀ t, PyData.tuple xs = enc t → t.length ≤ 40 := fun t e => by
  rw [enc_tupl] at e
  injection e with e
  have := congrArg List.length e
  rw [List.length_map] at this
  omega
theorem TT.c1 : TT (.tuple [.int 1]) := .not_ (tup_short (by decide)) (fun n => rfl) (fun n => rfl)
theorem TT.c02 : TT (.tuple [.int 0, .int 2]) := .not_ (tup_short (by decide)) (fun n => rfl) (fun n => rfl)
theorem TT.c0112 : TT (.tuple [.int 0, .int 1, .int 1, .int 2]) := .not_ (tup_short (by decide)) (fun n => rfl) (fun n => rfl)
theorem TT.c0b : TT (.tuple [.int 0, .bool true]) := .not_ (tup_short (by decide)) (fun n => rfl) (fun n => rfl)
theorem TT.ct : TT (.tuple [.bool true]) := .odd (isI_not fun i e => by cases e) (by decide)
theorem TT.cf : TT (.tuple [.bool false]) := .odd (isI_not fun i e => by cases e) (by decide)
def deep : Nat → D
  | 0 => .tuple []
  | n + 1 => .tuple [deep n]
theorem TT.deep : ∀ n : Nat, TT (deep n)
  | 0 => .c0
  | n + 1 => .odd (isI_not fun i e => by cases n <;> cases e) (by show 1 ≤ 40; omega)
end Oa

/-! What is a piece, what is none. -/
namespace Oa
open PySem PySem.Spec PyProof.Rows L2
/-! ### the first turning -/
def TInv (p : Pc) (b k : Nat) : Prop := (b = 0 ∧ ∀ i, i < k → ¬ rot i p < p) ∨ (0 < b ∧ rot b p < p)
theorem turn_for2 {n : Nat} {p : Pc} (hl : p.length ≤ 1000) : ∀ (j k b : Nat) (x : Option M), k + j = p.length → 1 ≤ k → b < k → TInv p b k → ∃ (b' : Nat) (y : Option M), forF (.n 2) (ftB.runs (lev n) cs0 fuel) (rngList (k : Int) (p.length : Nat)) [some (.d (encP p)), some (.d (.int ((b : Nat) : Int))), x] = .ok (.nx [some (.d (encP p)), some (.d (.int ((b' : Nat) : Int))), y]) ∧ TInv p b' p.length
  | 0, k, b, x, hk, h1, hb, hi => ⟨b, x, by rw [rng_nil (by omega)]; rfl, by rw [show p.length = k by omega]; exact hi⟩
  | j + 1, k, b, x, hk, h1, hb, hi => by
    have c1 := rot_ev (n := n) (k := k) (p := p) (x := 2) (s := [some (.d (encP p)), some (.d (.int ((b : Nat) : Int))), some (.d (.int (k : Int)))]) rfl rfl (by omega) (by omega)
    have c2 := rot_ev (n := n) (k := b) (p := p) (x := 1) (s := [some (.d (encP p)), some (.d (.int ((b : Nat) : Int))), some (.d (.int (k : Int)))]) rfl rfl (by omega) (by omega)
    have c3 := V.p2 (p := .lt) c1 c2 rfl (q_ltP (rot k p) (rot b p))
    by_cases hlt : rot k p < rot b p
    · rw [decide_eq_true hlt] at c3
      obtain ⟨b', y, e, hi'⟩ := turn_for2 (n := n) (p := p) hl j (k + 1) k (some (.d (.int (k : Int)))) (by omega) (by omega) (by omega) (.inr ⟨by omega, by
        rcases hi with ⟨rfl, _⟩ | ⟨_, h⟩
        · rw [rot_zero] at hlt
          exact hlt
        · exact List.lt_trans hlt h⟩)
      refine ⟨b', y, ?_, hi'⟩
      rw [rng_cons (by omega)]
      refine V.for_cons (m1 := [some (.d (encP p)), some (.d (.int ((b : Nat) : Int))), some (.d (.int (k : Int)))]) rfl ?_ e
      exact V.seq_nx (V.if_t c3 (V.seq_nx (V.set (r := .o (.d (.int (k : Int)))) (m1 := [some (.d (encP p)), some (.d (.int ((b : Nat) : Int))), some (.d (.int (k : Int)))]) rfl rfl rfl) rfl)) rfl
    · rw [decide_eq_false hlt] at c3
      obtain ⟨b', y, e, hi'⟩ := turn_for2 (n := n) (p := p) hl j (k + 1) b (some (.d (.int (k : Int)))) (by omega) (by omega) (by omega) (by
        rcases hi with ⟨rfl, h⟩ | h
        · refine .inl ⟨rfl, fun i hi => ?_⟩
          by_cases e : i = k
          · rw [e]
            rw [rot_zero] at hlt
            exact hlt
          · exact h i (by omega)
        · exact .inr h)
      refine ⟨b', y, ?_, hi'⟩
      rw [rng_cons (by omega)]
      refine V.for_cons (m1 := [some (.d (encP p)), some (.d (.int ((b : Nat) : Int))), some (.d (.int (k : Int)))]) rfl ?_ e
      exact V.seq_nx (V.if_f c3 rfl) rfl
theorem L_turn2 {n : Nat} {p : Pc} (h0 : p ≠ []) (hl : p.length ≤ 1000) : ∃ b : Nat, lev (n + 1) "first_turn" [.d (encP p)] = .ok (.o (.d (.int (b : Int))), [.d (encP p)]) ∧ (b = 0 ↔ Least p) := by
  rw [lv_first_turn]
  have hlen : 0 < p.length := List.length_pos_iff.mpr h0
  obtain ⟨b, y, e, hi⟩ := turn_for2 (n := n) hl (p.length - 1) 1 0 none (by omega) (Nat.le_refl _) (by omega) (.inl ⟨rfl, fun i hi => by
    rw [show i = 0 by omega, rot_zero]
    exact List.lt_irrefl _⟩)
  refine ⟨b, ?_, ?_⟩
  · refine V.def_rt (m := [some (.d (encP p)), none, y]) ?_ rfl
    refine V.seq_nx (V.set (r := .o (.d (.int ((0 : Nat) : Int)))) (m1 := [some (.d (encP p)), none, none]) (m2 := [some (.d (encP p)), some (.d (.int ((0 : Nat) : Int))), none]) rfl rfl rfl) ?_
    refine V.seq_nx (V.forS (ds := rngList ((1 : Nat) : Int) (p.length : Nat)) (m1 := [some (.d (encP p)), some (.d (.int ((0 : Nat) : Int))), none]) ?_ e) ?_
    · exact S.rng2_of (i := 1) (j := (p.length : Nat)) (m1 := [some (.d (encP p)), some (.d (.int ((0 : Nat) : Int))), none]) rfl (V.p1 (p := .len) rfl (q_lenP p)) (by omega) (by omega) (by omega) (by omega)
    · exact V.seq_rt rfl
  · constructor
    · rintro rfl
      rcases hi with ⟨_, h⟩ | ⟨h, _⟩
      · exact h
      · omega
    · intro hL
      rcases hi with ⟨h, _⟩ | ⟨h, g⟩
      · exact h
      · exfalso
        by_cases hb : b < p.length
        · exact hL b hb g
        · unfold rot at g
          rw [List.drop_of_length_le (by omega), List.take_of_length_le (by omega), List.nil_append] at g
          exact List.lt_irrefl _ g
/-! ### the least turning -/
theorem L_least2 {n : Nat} {p : Pc} (h0 : p ≠ []) (hl : p.length ≤ 1000) : ∃ k, k < p.length ∧ lev (n + 1) "_law_least" [.d (encP p)] = .ok (.o (.d (encP (rot k p))), [.d (encP p)]) ∧ ∀ j, j < p.length → ¬ rot j p < rot k p := by
  rw [lv_law_least]
  have hlen : 0 < p.length := List.length_pos_iff.mpr h0
  have c1 : (Ex.comp false (.p2 .add (.slL (.var 0) (.var 1)) (.slH (.var 0) (.var 1))) (.n 1) (.rng1 (.p1 .len (.var 0))) .nil).ev (lev n) cs0 [some (.d (encP p)), none] = .ok (.o (.v ((List.range p.length).map fun k => encP (rot k p))), [some (.d (encP p)), none]) := by
    refine V.comp_map (m1 := [some (.d (encP p)), none]) nD (List.range p.length) [some (.d (encP p)), none] (fun k => [some (.d (encP p)), some (.d (.int (k : Int)))]) (fun k => encP (rot k p)) ?_ rfl (fun k hk => ⟨rfl, rfl, .o (.d (encP (rot k p))), rot_ev rfl rfl (Nat.le_of_lt (List.mem_range.mp hk)) (by omega), rfl⟩) (by rw [List.length_range]; exact Nat.le_trans hl (by decide)) rfl (fun _ _ => rfl)
    rw [← rng0_map]
    exact S.rng1_of (V.p1 (p := .len) rfl (q_lenP p)) (by omega) (by omega)
  obtain ⟨m, hm⟩ : ∃ m, p.length = m + 1 := ⟨p.length - 1, by omega⟩
  have e1 : (List.range p.length).map (fun k => encP (rot k p)) = (rot 0 p :: ((List.range m).map Nat.succ).map fun k => rot k p).map encP := by
    rw [hm, List.range_succ_eq_map, List.map_cons, List.map_cons, List.map_map (f := fun k => rot k p)]
    rfl
  rw [e1] at c1
  obtain ⟨q, eq, hq, hq2⟩ := q_minP (rot 0 p) (((List.range m).map Nat.succ).map fun k => rot k p)
  have hmem : ∀ y, y ∈ rot 0 p :: ((List.range m).map Nat.succ).map (fun k => rot k p) ↔ ∃ k, k < p.length ∧ y = rot k p := by
    intro y
    have : rot 0 p :: ((List.range m).map Nat.succ).map (fun k => rot k p) = (List.range p.length).map fun k => rot k p := by
      rw [hm, List.range_succ_eq_map, List.map_cons]
    rw [this, List.mem_map]
    constructor
    · rintro ⟨k, hk, rfl⟩
      exact ⟨k, List.mem_range.mp hk, rfl⟩
    · rintro ⟨k, hk, rfl⟩
      exact ⟨k, List.mem_range.mpr hk, rfl⟩
  obtain ⟨k, hk, rfl⟩ := (hmem q).mp hq
  exact ⟨k, hk, V.def_rt (m := [some (.d (encP p)), none]) (V.seq_rt (V.ret (V.p1 (p := .min) c1 eq) rfl)) rfl, fun j hj => hq2 _ ((hmem _).mpr ⟨j, hj, rfl⟩)⟩
theorem least_eq {p : Pc} {k : Nat} (h0 : p ≠ []) (hk : k < p.length) (h : ∀ j, j < p.length → ¬ rot j p < rot k p) : rot k p = p ↔ Least p := by
  constructor
  · intro e j hj
    have := h j hj
    rw [e] at this
    exact this
  · intro hL
    have h1 := h 0 (by omega)
    rw [rot_zero] at h1
    rcases pc_tot h1 with e | e
    · exact e.symm
    · exact absurd e (hL k hk)
/-! ### judged -/
structure Jd (x : D) (g : Bool) : Prop where
  pr : ∀ n, lev (n + 6) "is_piece" [.d x] = .ok (.o (.d (.bool g)), [.d x])
  la : ∀ n, lev (n + 60) "_law_is_piece" [.d x] = .ok (.o (.d (.bool g)), [.d x])
  good : g = true → ∃ p, x = encP p ∧ PcOk p ∧ p.length ≤ 60 ∧ ∀ t ∈ p, t.length ≤ 40
theorem Jd.nt {x : D} (h : P.isTy (P.tyOf x) "tuple" = false) : Jd x false := by
  refine ⟨fun n => ?_, fun n => ?_, fun e => by cases e⟩
  · rw [lv_is_piece]
    refine V.def_rt (m := [some (.d x)]) ?_ rfl
    have q : lev (n + 5) "is_marked_row" [.d x] = .ok (.o (.d (.bool false)), [.d x]) := by
      rw [lv_is_marked_row]
      refine V.def_rt (m := [some (.d x), none]) ?_ rfl
      have i1 : (Ex.isi (.var 0) "tuple").ev (lev (n + 4)) cs0 [some (.d x), none] = .ok (.p (.bool false), [some (.d x), none]) := by
        rw [← h]
        exact V.isi rfl S.q_isi
      exact V.seq_rt (V.ret (V.and_f i1) rfl)
    exact V.seq_rt (V.ret (V.and_f (S.call_d rfl q)) rfl)
  · rw [lv_law_is_piece]
    refine V.def_rt (m := [some (.d x), none]) ?_ rfl
    have i1 : (Ex.isi (.var 0) "tuple").ev (lev (n + 59)) cs0 [some (.d x), none] = .ok (.p (.bool false), [some (.d x), none]) := by
      rw [← h]
      exact V.isi rfl S.q_isi
    exact V.seq_rt (V.if_t (V.or_t (V.not i1)) (V.seq_rt (V.ret (r := .p (.bool false)) (m1 := [some (.d x), none]) rfl rfl)))
theorem all_tr {xs : List D} (h : xs.all isTr = true) (ht : ∀ x ∈ xs, TT x) : ∃ p : Pc, xs = p.map enc ∧ ∀ t ∈ p, Good t ∧ t.length ≤ 40 := by
  induction xs with
  | nil => exact ⟨[], rfl, fun t h => by cases h⟩
  | cons x xs ih =>
    rw [List.all_cons, Bool.and_eq_true] at h
    obtain ⟨t, rfl, hg⟩ := isTr_of h.1
    obtain ⟨p, rfl, hp⟩ := ih h.2 fun y hy => ht y (List.mem_cons_of_mem _ hy)
    refine ⟨t :: p, rfl, fun u hu => ?_⟩
    rcases List.mem_cons.mp hu with rfl | hu
    · exact ⟨hg, (ht _ List.mem_cons_self).len _ rfl⟩
    · exact hp u hu
theorem ev_len_t {n : Nat} {xs : List D} {m : Sl} : (Ex.p1 .len (.var 0)).ev (lev n) cs0 (some (.d (.tuple xs)) :: m) = .ok (.o (.d (.int ((xs.length : Nat) : Int))), some (.d (.tuple xs)) :: m) := V.p1 (p := .len) (m1 := some (.d (.tuple xs)) :: m) rfl S.q_len_t
theorem marked_of {n : Nat} {xs : List D} (ht : ∀ x ∈ xs, TT x) (hl : xs.length ≤ 60) : lev (n + 5) "is_marked_row" [.d (.tuple xs)] = .ok (.o (.d (.bool (decide (0 < xs.length) && xs.all isTr))), [.d (.tuple xs)]) := by
  rw [lv_is_marked_row]
  let m : Sl := [some (.d (.tuple xs)), none]
  refine V.def_rt (m := m) ?_ rfl
  have c1 : (Ex.isi (.var 0) "tuple").ev (lev (n + 4)) cs0 m = .ok (.p (.bool true), m) := V.isi rfl rfl
  have c2 : (Ex.p2 .gt (.p1 .len (.var 0)) (.int 0)).ev (lev (n + 4)) cs0 m = .ok (.p (.bool (decide (0 < xs.length))), m) := by
    have := V.p2 (cf := lev (n + 4)) (cs := cs0) (p := .gt) (a := .p1 .len (.var 0)) (b := .int 0) (m := m) ev_len_t (q := .o (.d (.int 0))) (m2 := m) rfl rfl S.q_gt
    rw [this]
    congr 5
    exact decide_eq_decide.mpr (by omega)
  have c3 : (Ex.p1 .all (.comp false (.call "is_tree" (.r (.var 1) .nil)) (.n 1) (.ex (.var 0)) .nil)).ev (lev (n + 4)) cs0 m = .ok (.p (.bool (xs.all isTr)), m) := by
    have c := V.comp_map (cf := lev (n + 4)) (cs := cs0) (elt := .call "is_tree" (.r (.var 1) .nil)) (t := .n 1) (it := .ex (.var 0)) (m := m) (m1 := m) (mf := m) (id : D → D) xs m (fun d => [some (.d (.tuple xs)), some (.d d)]) (fun d => .bool (isTr d)) (by rw [List.map_id]; rfl) rfl (fun d hd => ⟨rfl, rfl, .o (.d (.bool (isTr d))), S.call_d rfl ((ht d hd).pr (n + 1)), rfl⟩) (Nat.le_trans hl (by decide)) rfl (fun _ _ => rfl)
    exact V.p1 (p := .all) c (all_bools isTr xs)
  refine V.seq_rt (V.ret (r := .p (.bool (decide (0 < xs.length) && xs.all isTr))) (V.and_t c1 ?_) rfl)
  by_cases h0 : 0 < xs.length
  · rw [decide_eq_true h0] at c2 ⊢
    exact V.and_t c2 c3
  · rw [decide_eq_false h0] at c2 ⊢
    exact V.and_f c2
theorem jd_tuple {xs : List D} (ht : ∀ x ∈ xs, TT x) (hl : xs.length ≤ 60) : ∃ g, Jd (.tuple xs) g := by
  have lhead : ∀ n (z : Res Out), (decide (0 < xs.length) && xs.all isTr) = true → (Sts.cons (.ret (.p2 .eq (.call "_law_least" (.r (.var 0) .nil)) (.var 0))) .nil).runs (lev (n + 59)) cs0 fuel [some (.d (.tuple xs)), none] = z → f__law_is_piece.body.runs (lev (n + 59)) cs0 fuel (slots0 2 [.d (.tuple xs)]) = z := by
    intro n z h hz
    rw [Bool.and_eq_true, decide_eq_true_eq] at h
    let m : Sl := [some (.d (.tuple xs)), none]
    have c1 : (Ex.isi (.var 0) "tuple").ev (lev (n + 59)) cs0 m = .ok (.p (.bool true), m) := V.isi rfl rfl
    have c2 : (Ex.p2 .eq (.p1 .len (.var 0)) (.int 0)).ev (lev (n + 59)) cs0 m = .ok (.p (.bool false), m) := by
      have := V.p2 (cf := lev (n + 59)) (cs := cs0) (p := .eq) (a := .p1 .len (.var 0)) (b := .int 0) (m := m) ev_len_t (q := .o (.d (.int 0))) (m2 := m) rfl rfl S.q_eq
      rw [decide_eq_false (by omega)] at this
      exact this
    have c3 : (Ex.p1 .all (.comp false (.call "_law_is_tree" (.r (.var 1) .nil)) (.n 1) (.ex (.var 0)) .nil)).ev (lev (n + 59)) cs0 m = .ok (.p (.bool true), m) := by
      have c := V.comp_map (cf := lev (n + 59)) (cs := cs0) (elt := .call "_law_is_tree" (.r (.var 1) .nil)) (t := .n 1) (it := .ex (.var 0)) (m := m) (m1 := m) (mf := m) (id : D → D) xs m (fun d => [some (.d (.tuple xs)), some (.d d)]) (fun d => .bool (isTr d)) (by rw [List.map_id]; rfl) rfl (fun d hd => ⟨rfl, rfl, .o (.d (.bool (isTr d))), S.call_d rfl ((ht d hd).la (n + 9)), rfl⟩) (Nat.le_trans hl (by decide)) rfl (fun _ _ => rfl)
      have := V.p1 (p := .all) c (all_bools isTr xs)
      rw [h.2] at this
      exact this
    exact V.seq_nx (V.if_f (V.or_f (V.not c1) (V.or_f c2 (V.not c3))) rfl) hz
  cases hb : (decide (0 < xs.length) && xs.all isTr) with
  | false =>
    refine ⟨false, fun n => ?_, fun n => ?_, fun e => by cases e⟩
    · rw [lv_is_piece]
      refine V.def_rt (m := [some (.d (.tuple xs))]) ?_ rfl
      have q := marked_of (n := n) ht hl
      rw [hb] at q
      exact V.seq_rt (V.ret (V.and_f (S.call_d rfl q)) rfl)
    · rw [lv_law_is_piece]
      let m : Sl := [some (.d (.tuple xs)), none]
      refine V.def_rt (m := m) ?_ rfl
      have c1 : (Ex.isi (.var 0) "tuple").ev (lev (n + 59)) cs0 m = .ok (.p (.bool true), m) := V.isi rfl rfl
      have c2 : (Ex.p2 .eq (.p1 .len (.var 0)) (.int 0)).ev (lev (n + 59)) cs0 m = .ok (.p (.bool (decide (((xs.length : Nat) : Int) = 0))), m) := V.p2 (p := .eq) ev_len_t (q := .o (.d (.int 0))) (m2 := m) rfl rfl S.q_eq
      have rt : (Sts.cons (.ret (.bl false)) .nil).runs (lev (n + 59)) cs0 fuel m = .ok (.rt (.d (.bool false)) m) := V.seq_rt (V.ret (r := .p (.bool false)) (m1 := m) rfl rfl)
      by_cases h0 : 0 < xs.length
      · rw [decide_eq_false (by omega)] at c2
        rw [decide_eq_true h0, Bool.true_and] at hb
        have c3 : (Ex.p1 .all (.comp false (.call "_law_is_tree" (.r (.var 1) .nil)) (.n 1) (.ex (.var 0)) .nil)).ev (lev (n + 59)) cs0 m = .ok (.p (.bool false), m) := by
          have c := V.comp_map (cf := lev (n + 59)) (cs := cs0) (elt := .call "_law_is_tree" (.r (.var 1) .nil)) (t := .n 1) (it := .ex (.var 0)) (m := m) (m1 := m) (mf := m) (id : D → D) xs m (fun d => [some (.d (.tuple xs)), some (.d d)]) (fun d => .bool (isTr d)) (by rw [List.map_id]; rfl) rfl (fun d hd => ⟨rfl, rfl, .o (.d (.bool (isTr d))), S.call_d rfl ((ht d hd).la (n + 9)), rfl⟩) (Nat.le_trans hl (by decide)) rfl (fun _ _ => rfl)
          have := V.p1 (p := .all) c (all_bools isTr xs)
          rw [hb] at this
          exact this
        exact V.seq_rt (V.if_t (V.or_f (V.not c1) (V.or_f c2 (V.not c3))) rt)
      · rw [decide_eq_true (by omega)] at c2
        exact V.seq_rt (V.if_t (V.or_f (V.not c1) (V.or_t c2)) rt)
  | true =>
    have hb2 := hb
    rw [Bool.and_eq_true, decide_eq_true_eq] at hb2
    obtain ⟨p, rfl, hp⟩ := all_tr hb2.2 ht
    rw [List.length_map] at hl hb2
    have hne : p ≠ [] := List.length_pos_iff.mp hb2.1
    refine ⟨@decide (Least p) (Classical.propDecidable _), fun n => ?_, fun n => ?_, fun e => ?_⟩
    · rw [lv_is_piece]
      refine V.def_rt (m := [some (.d (encP p))]) ?_ rfl
      have q := marked_of (n := n) ht (by rw [List.length_map]; exact hl)
      rw [hb] at q
      obtain ⟨b, eb, hbL⟩ := L_turn2 (n := n + 4) hne (by omega : p.length ≤ 1000)
      have c2 : (Ex.p2 .eq (.call "first_turn" (.r (.var 0) .nil)) (.int 0)).ev (lev (n + 5)) cs0 [some (.d (encP p))] = .ok (.p (.bool (decide ((b : Int) = 0))), [some (.d (encP p))]) :=
        V.p2 (p := .eq) (S.call_d (m1 := [some (.d (encP p))]) rfl eb) (q := .o (.d (.int 0))) (m2 := [some (.d (encP p))]) rfl rfl S.q_eq
      have ed : decide ((b : Int) = 0) = @decide (Least p) (Classical.propDecidable _) := by
        by_cases h : Least p
        · rw [@decide_eq_true _ (Classical.propDecidable _) h]
          exact decide_eq_true (by have := hbL.mpr h; omega)
        · rw [@decide_eq_false _ (Classical.propDecidable _) h]
          exact decide_eq_false fun z => h (hbL.mp (by omega))
      rw [ed] at c2
      exact V.seq_rt (V.ret (V.and_t (S.call_d rfl q) c2) rfl)
    · rw [lv_law_is_piece]
      refine V.def_rt (m := [some (.d (encP p)), none]) ?_ rfl
      refine lhead n _ hb ?_
      obtain ⟨k, hk, ek, hmin⟩ := L_least2 (n := n + 58) hne (by omega : p.length ≤ 1000)
      have c2 : (Ex.p2 .eq (.call "_law_least" (.r (.var 0) .nil)) (.var 0)).ev (lev (n + 59)) cs0 [some (.d (encP p)), none] = .ok (.p (.bool (decide (rot k p = p))), [some (.d (encP p)), none]) :=
        V.p2 (p := .eq) (S.call_d (m1 := [some (.d (encP p)), none]) rfl ek) (q := .o (.d (encP p))) (m2 := [some (.d (encP p)), none]) rfl rfl (q_eqP _ _)
      have ed : decide (rot k p = p) = @decide (Least p) (Classical.propDecidable _) := by
        by_cases h : Least p
        · rw [@decide_eq_true _ (Classical.propDecidable _) h]
          exact decide_eq_true ((least_eq hne hk hmin).mpr h)
        · rw [@decide_eq_false _ (Classical.propDecidable _) h]
          exact decide_eq_false fun z => h ((least_eq hne hk hmin).mp z)
      rw [ed] at c2
      exact V.seq_rt (V.ret c2 rfl)
    · exact ⟨p, rfl, ⟨hne, fun t h => ⟨(hp t h).1, by have := (hp t h).2; omega⟩, @of_decide_eq_true _ (Classical.propDecidable _) e⟩, hl, fun t h => (hp t h).2⟩
end Oa

/-! Keys, words. -/
namespace Oa
open PySem PySem.Spec PyProof.Rows L2
abbrev IN (x : Nat) : D := .int (x : Int)
/-! ### what may be a key -/
def ck : Nat → D → Bool
  | 0, d => match d with
    | .tuple _ | .list _ | .dict _ => false
    | _ => true
  | k + 1, d => match d with
    | .tuple xs => xs.all (ck k)
    | .list _ | .dict _ => false
    | _ => true
def wd : Nat → D → Prop
  | 0, _ => True
  | k + 1, d => match d with
    | .tuple xs => xs.length ≤ 1000 ∧ ∀ x ∈ xs, wd k x
    | _ => True
theorem ck_nt {k : Nat} {d : D} (h : P.isTy (P.tyOf d) "tuple" = false) : ck k d = !(P.isTy (P.tyOf d) "list" || P.isTy (P.tyOf d) "dict") := by
  cases d with
  | tuple xs => exact absurd h (by show ¬ P.isTy "tuple" "tuple" = false; decide)
  | none => cases k <;> (show true = !(P.isTy "NoneType" "list" || P.isTy "NoneType" "dict"); decide)
  | bool b => cases k <;> (show true = !(P.isTy "bool" "list" || P.isTy "bool" "dict"); decide)
  | int b => cases k <;> (show true = !(P.isTy "int" "list" || P.isTy "int" "dict"); decide)
  | str b => cases k <;> (show true = !(P.isTy "str" "list" || P.isTy "str" "dict"); decide)
  | list b => cases k <;> (show false = !(P.isTy "list" "list" || P.isTy "list" "dict"); decide)
  | dict b => cases k <;> (show false = !(P.isTy "dict" "list" || P.isTy "dict" "dict"); decide)
theorem L_ck : ∀ (k : Nat) (d : D) (n : Nat), wd k d → lev (n + k + 1) "_law_can_be_key" [.d d, .d (IN k)] = .ok (.o (.d (.bool (ck k d))), [.d d, .d (IN k)]) := by
  intro k
  induction k with
  | zero =>
    intro d n _
    rw [lv_law_can_be_key]
    let m : Sl := [some (.d d), some (.d (IN 0)), none]
    refine V.def_rt (m := m) ?_ rfl
    have i1 : (Ex.isi (.var 0) "tuple").ev (lev (n + 0)) cs0 m = .ok (.p (.bool (P.isTy (P.tyOf d) "tuple")), m) := V.isi rfl S.q_isi
    cases h : P.isTy (P.tyOf d) "tuple" with
    | true =>
      rw [h] at i1
      have e : ck 0 d = false := by
        cases d <;> first | rfl | exact absurd h (by first | (show ¬ P.isTy "NoneType" "tuple" = true; decide) | (show ¬ P.isTy "bool" "tuple" = true; decide) | (show ¬ P.isTy "int" "tuple" = true; decide) | (show ¬ P.isTy "str" "tuple" = true; decide))
      rw [e]
      have i2 : (Ex.p2 .gt (.var 1) (.int 0)).ev (lev (n + 0)) cs0 m = .ok (.p (.bool false), m) := V.p2 (p := .gt) (r := .o (.d (IN 0))) (m1 := m) rfl (q := .o (.d (.int 0))) (m2 := m) rfl rfl (by rw [S.f_gt, S.q_gt]; rfl)
      exact V.seq_rt (V.if_t i1 (V.seq_rt (V.ret (V.and_f i2) rfl)))
    | false =>
      rw [h] at i1
      rw [ck_nt h]
      refine V.seq_nx (V.if_f i1 rfl) ?_
      refine V.seq_rt (V.ret (V.not ?_) rfl)
      simp [m]
  | succ k ih =>
    intro d n hw
    rw [lv_law_can_be_key]
    let m : Sl := [some (.d d), some (.d (IN (k + 1))), none]
    refine V.def_rt (m := m) ?_ rfl
    have i1 : (Ex.isi (.var 0) "tuple").ev (lev (n + (k + 1))) cs0 m = .ok (.p (.bool (P.isTy (P.tyOf d) "tuple")), m) := V.isi rfl S.q_isi
    cases h : P.isTy (P.tyOf d) "tuple" with
    | true =>
      rw [h] at i1
      have ht : ∃ xs, d = .tuple xs := by
        cases d with
        | tuple xs => exact ⟨xs, rfl⟩
        | none => exact absurd h (by show ¬ P.isTy "NoneType" "tuple" = true; decide)
        | bool b => exact absurd h (by show ¬ P.isTy "bool" "tuple" = true; decide)
        | int b => exact absurd h (by show ¬ P.isTy "int" "tuple" = true; decide)
        | str b => exact absurd h (by show ¬ P.isTy "str" "tuple" = true; decide)
        | list b => exact absurd h (by show ¬ P.isTy "list" "tuple" = true; decide)
        | dict b => exact absurd h (by show ¬ P.isTy "dict" "tuple" = true; decide)
      obtain ⟨xs, rfl⟩ := ht
      have i2 : (Ex.p2 .gt (.var 1) (.int 0)).ev (lev (n + (k + 1))) cs0 m = .ok (.p (.bool true), m) := V.p2 (p := .gt) (r := .o (.d (IN (k + 1)))) (m1 := m) rfl (q := .o (.d (.int 0))) (m2 := m) rfl rfl (by
        rw [S.f_gt, S.q_gt, decide_eq_true]
        show (0 : Int) < ((k + 1 : Nat) : Int)
        omega)
      have i3 : (Ex.p1 .all (.comp false (.call "_law_can_be_key" (.r (.var 2) (.r (.p2 .sub (.var 1) (.int 1)) .nil))) (.n 2) (.ex (.var 0)) .nil)).ev (lev (n + (k + 1))) cs0 m = .ok (.p (.bool (xs.all (ck k))), m) := by
        have c := V.comp_map (cf := lev (n + (k + 1))) (cs := cs0) (elt := .call "_law_can_be_key" (.r (.var 2) (.r (.p2 .sub (.var 1) (.int 1)) .nil))) (t := .n 2) (it := .ex (.var 0)) (m := m) (m1 := m) (mf := m) (id : D → D) xs m (fun x => [some (.d (.tuple xs)), some (.d (IN (k + 1))), some (.d x)]) (fun x => .bool (ck k x)) (by rw [List.map_id]; rfl) rfl (fun x hx => ⟨rfl, rfl, .o (.d (.bool (ck k x))), S.call_2 (d := x) (e := IN k) rfl (V.p2 (p := .sub) rfl rfl rfl (by
          rw [S.f_sub]
          show P.sub [.o (.d (IN (k + 1))), .o (.d (.int 1))] = _
          rw [S.q_sub]
          congr 4
          show ((k + 1 : Nat) : Int) - 1 = _
          omega)) (ih x n (hw.2 x hx)), rfl⟩) (Nat.le_trans hw.1 (by decide)) rfl (fun _ _ => rfl)
        exact V.p1 (p := .all) c (all_bools (ck k) xs)
      exact V.seq_rt (V.if_t i1 (V.seq_rt (V.ret (V.and_t i2 i3) rfl)))
    | false =>
      rw [h] at i1
      rw [ck_nt h]
      refine V.seq_nx (V.if_f i1 rfl) ?_
      refine V.seq_rt (V.ret (V.not ?_) rfl)
      simp [m]
theorem ck_key : ∀ (k : Nat) (d : D), ck k d = true → ∃ kk, keyOf d = some kk ∧ kk.depth ≤ k
  | 0, d, h => by
    cases d with
    | none => exact ⟨_, rfl, Nat.le_refl _⟩
    | bool b => exact ⟨_, rfl, Nat.le_refl _⟩
    | int b => exact ⟨_, rfl, Nat.le_refl _⟩
    | str b => exact ⟨_, rfl, Nat.le_refl _⟩
    | _ => cases h
  | k + 1, d, h => by
    cases d with
    | none => exact ⟨_, rfl, Nat.zero_le _⟩
    | bool b => exact ⟨_, rfl, Nat.zero_le _⟩
    | int b => exact ⟨_, rfl, Nat.zero_le _⟩
    | str b => exact ⟨_, rfl, Nat.zero_le _⟩
    | tuple xs =>
      have h2 : xs.all (ck k) = true := h
      have : ∀ xs : List D, xs.all (ck k) = true → ∃ ks, keysOf xs = some ks ∧ NestedKey.depthAll ks ≤ k := by
        intro xs
        induction xs with
        | nil => exact fun _ => ⟨[], rfl, Nat.zero_le _⟩
        | cons x xs ih =>
          intro h
          rw [List.all_cons, Bool.and_eq_true] at h
          obtain ⟨kk, e1, e2⟩ := ck_key k x h.1
          obtain ⟨ks, e3, e4⟩ := ih h.2
          refine ⟨kk :: ks, ?_, ?_⟩
          · show (keyOf x).bind _ = _
            rw [e1]
            show (keysOf xs).map _ = _
            rw [e3]
            rfl
          · show max kk.depth (NestedKey.depthAll ks) ≤ k
            omega
      obtain ⟨ks, e1, e2⟩ := this xs h2
      refine ⟨.tup ks, ?_, ?_⟩
      · show (keysOf xs).map NestedKey.tup = _
        rw [e1]
        rfl
      · show NestedKey.depthAll ks + 1 ≤ k + 1
        omega
    | _ => cases h
theorem ck_tup {xs : List D} (h : ck 6 (.tuple xs) = true) : tupKey0 (.tuple xs) = true := by
  obtain ⟨kk, e1, e2⟩ := ck_key 6 _ h
  unfold tupKey0
  simp only [e1]
  exact decide_eq_true (by omega)
theorem ck_encP (p : Pc) : ck 6 (encP p) = true := by
  show (p.map enc).all (ck 5) = true
  rw [List.all_eq_true]
  intro x hx
  obtain ⟨t, _, rfl⟩ := List.mem_map.mp hx
  show (t.map PyData.int).all (ck 4) = true
  rw [List.all_eq_true]
  intro y hy
  obtain ⟨i, _, rfl⟩ := List.mem_map.mp hy
  rfl
/-! ### a dict with one key -/
theorem one_look {xs : List D} {v : D} (h : tupKey0 (.tuple xs) = true) : P.idx [.o (.d (.dict [(.tuple xs, v)])), .o (.d (.tuple xs))] = .ok (.o (.d v)) := by
  have e1 : (tupKey (.tuple xs)).isSome = true := by
    unfold tupKey0 at h
    unfold tupKey
    simp only at h ⊢
    cases e : keyOf (.tuple xs) with
    | none => rw [e] at h; cases h
    | some k =>
      rw [e] at h
      simp only at h ⊢
      rw [if_pos (of_decide_eq_true h)]
      rfl
  have e2 : kOk [(.tuple xs, v)] (.tuple xs) = true := by
    unfold kOk tups
    rw [List.all_cons, e1]
    simp
  show (if kOk [(.tuple xs, v)] (.tuple xs) = true then (match look? [(.tuple xs, v)] (.tuple xs) with
    | some d => Res.ok (Rv.p d)
    | none => .bad) else .bad) = _
  rw [if_pos e2]
  unfold look?
  simp
theorem L_heap1 {n : Nat} {xs : List D} {g : Bool} (j : Jd (.tuple xs) g) (h : tupKey0 (.tuple xs) = true) : lev (n + 7) "is_heap" [.d (.dict [(.tuple xs, .int 1)])] = .ok (.o (.d (.bool g)), [.d (.dict [(.tuple xs, .int 1)])]) := by
  rw [lv_is_heap]
  let m : Sl := [some (.d (.dict [(.tuple xs, .int 1)])), none]
  let m1 : Sl := [some (.d (.dict [(.tuple xs, .int 1)])), some (.d (.tuple xs))]
  refine V.def_rt (m := m) ?_ rfl
  have i1 : (Ex.isi (.var 0) "dict").ev (lev (n + 6)) cs0 m = .ok (.p (.bool true), m) := V.isi rfl rfl
  have e0 : (Ex.call "is_piece" (.r (.var 1) .nil)).ev (lev (n + 6)) cs0 m1 = .ok (.p (.bool g), m1) := S.call_d rfl (j.pr n)
  have ix : (Ex.p2 .idx (.var 0) (.var 1)).ev (lev (n + 6)) cs0 m1 = .ok (.o (.d (.int 1)), m1) := V.p2 (p := .idx) (m1 := m1) (r := .o (.d (.dict [(.tuple xs, .int 1)]))) rfl (q := .o (.d (.tuple xs))) (m2 := m1) rfl rfl (one_look h)
  have e1 : (Ex.and (.call "is_piece" (.r (.var 1) .nil)) (.and (.call "is_integer" (.r (.p2 .idx (.var 0) (.var 1)) .nil)) (.p2 .gt (.p2 .idx (.var 0) (.var 1)) (.int 0)))).ev (lev (n + 6)) cs0 m1 = .ok (.p (.bool g), m1) := by
    cases g with
    | false => exact V.and_f e0
    | true =>
      have e2 : (Ex.call "is_integer" (.r (.p2 .idx (.var 0) (.var 1)) .nil)).ev (lev (n + 6)) cs0 m1 = .ok (.p (.bool true), m1) := by
        have := S.call_d (m1 := m1) ix (L_isi (n := n + 5) (.int 1))
        rw [isI_i] at this
        exact this
      exact V.and_t e0 (V.and_t e2 (V.p2 (p := .gt) ix (q := .o (.d (.int 0))) (m2 := m1) rfl rfl rfl))
  have c : (Ex.comp false (.and (.call "is_piece" (.r (.var 1) .nil)) (.and (.call "is_integer" (.r (.p2 .idx (.var 0) (.var 1)) .nil)) (.p2 .gt (.p2 .idx (.var 0) (.var 1)) (.int 0)))) (.n 1) (.ex (.var 0)) .nil).ev (lev (n + 6)) cs0 m = .ok (.o (.v ([PyData.tuple xs].map fun _ => .bool g)), m) :=
    V.comp_map (m1 := m) (id : D → D) [.tuple xs] m (fun _ => m1) (fun _ => .bool g) rfl rfl (fun d hd => by
      rw [List.mem_singleton] at hd
      subst hd
      exact ⟨rfl, rfl, .o (.d (.bool g)), e1, rfl⟩) (by show 1 ≤ 16777216; omega) rfl (fun _ _ => rfl)
  refine V.seq_nx (V.if_f (V.not i1) rfl) ?_
  have := V.p1 (p := .all) c (all_bools (fun _ => g) [PyData.tuple xs])
  rw [List.all_cons, List.all_nil, Bool.and_true] at this
  exact V.seq_rt (V.ret this rfl)
/-! ### numbers -/
def inR (d : D) (a b : Int) : Bool := match d with
  | .int i => decide (a ≤ i) && decide (i ≤ b)
  | _ => false
theorem inR_isI {d : D} {a b : Int} (h : isI d = false) : inR d a b = false := by
  cases d with
  | int i => rw [isI_i] at h; cases h
  | _ => rfl
theorem isI_int {d : D} (h : isI d = true) : ∃ i, d = .int i := by
  rcases Classical.em (∃ i, d = .int i) with e | e
  · exact e
  · rw [isI_not fun i z => e ⟨i, z⟩] at h
    cases h
theorem cmp_in {cf : CfT} {x y z : Nat} {m : Sl} {i a b : Int} {ea eb : Ex} (h1 : ea.ev cf cs0 m = .ok (.o (.d (.int a)), m)) (h2 : m[y]? = some (some (.d (.int i)))) (h3 : eb.ev cf cs0 m = .ok (.o (.d (.int b)), m)) : (Ex.cmp2 .le .le ea (.var y) eb).ev cf cs0 m = .ok (.p (.bool (inR (.int i) a b)), m) := by
  rw [S.ev_cmp2, h1]
  simp only [Res.bind_ok, Rv.m, M.int?, S.i3_some]
  rw [V.v_d h2]
  simp only [Res.bind_ok, Rv.m, M.int?, S.i3_some, S.cmpI_le]
  unfold inR
  by_cases h : a ≤ i
  · simp only [h, decide_true, S.b3_some, if_true, Bool.true_and]
    rw [h3]
    rfl
  · simp only [h, decide_false, S.b3_some, Bool.false_and, Bool.false_eq_true, if_false]
theorem L_betw {n : Nat} (d : D) (a b : Int) : lev (n + 2) "is_between" [.d d, .d (.int a), .d (.int b)] = .ok (.o (.d (.bool (inR d a b))), [.d d, .d (.int a), .d (.int b)]) := by
  rw [lv_is_between]
  refine V.def_rt (m := [some (.d d), some (.d (.int a)), some (.d (.int b))]) ?_ rfl
  have i1 : (Ex.call "is_integer" (.r (.var 0) .nil)).ev (lev (n + 1)) cs0 [some (.d d), some (.d (.int a)), some (.d (.int b))] = .ok (.p (.bool (isI d)), [some (.d d), some (.d (.int a)), some (.d (.int b))]) := S.call_d rfl (L_isi d)
  refine V.seq_rt (V.ret (r := .p (.bool (inR d a b))) ?_ rfl)
  cases h : isI d with
  | false =>
    rw [h] at i1
    rw [inR_isI h]
    exact V.and_f i1
  | true =>
    rw [h] at i1
    obtain ⟨i, rfl⟩ := isI_int h
    exact V.and_t i1 (cmp_in (x := 0) (z := 0) rfl rfl rfl)
theorem L_chk_er {n : Nat} {d : D} {a b : Int} (h : inR d a b = false) : lev (n + 3) "check_number" [.d d, .d (.int a), .d (.int b)] = .er "NoNumber" none := by
  rw [lv_check_number]
  refine V.def_er ?_
  have c : (Ex.not (.call "is_between" (.r (.var 0) (.r (.var 1) (.r (.var 2) .nil))))).ev (lev (n + 2)) cs0 [some (.d d), some (.d (.int a)), some (.d (.int b))] = .ok (.p (.bool (!false)), [some (.d d), some (.d (.int a)), some (.d (.int b))]) := V.not (by rw [← h]; exact S.call_3 rfl rfl rfl (L_betw d a b))
  have e : (St.ite (.not (.call "is_between" (.r (.var 0) (.r (.var 1) (.r (.var 2) .nil))))) (.cons (.rai "NoNumber") .nil) .nil).run (lev (n + 2)) cs0 fuel [some (.d d), some (.d (.int a)), some (.d (.int b))] = .er "NoNumber" none := V.if_t c (V.seq_er V.rai)
  exact V.seq_er e
theorem L_cp_er {n : Nat} {x : D} (j : Jd x false) : lev (n + 7) "check_piece" [.d x] = .er "NoPiece" none := by
  rw [lv_check_piece]
  refine V.def_er ?_
  have c : (Ex.not (.call "is_piece" (.r (.var 0) .nil))).ev (lev (n + 6)) cs0 [some (.d x)] = .ok (.p (.bool (!false)), [some (.d x)]) := V.not (S.call_d rfl (j.pr n))
  have e : (St.ite (.not (.call "is_piece" (.r (.var 0) .nil))) (.cons (.rai "NoPiece") .nil) .nil).run (lev (n + 6)) cs0 fuel [some (.d x)] = .er "NoPiece" none := V.if_t c (V.seq_er V.rai)
  exact V.seq_er e
/-! ### words -/
def WS (a b c : D) (w : Str) : Sl := [some (.d a), some (.d b), some (.d c), some (.d (.str w))]
def wdT : St := f__law_word.body.tl.hd
def wdB : Sts := match wdT with
  | .tri b _ _ _ => b
  | _ => .nil
theorem word_of {k : Nat} {a b c : D} {w : Str} (h : wdT.run (lev k) cs0 fuel (WS a b c "other") = .ok (.nx [some (.d a), some (.d b), some (.d c), some (.d (.str w))])) : lev (k + 1) "_law_word" [.d a, .d b, .d c] = .ok (.o (.d (.str w)), [.d a, .d b, .d c]) := by
  rw [lv_law_word]
  refine V.def_rt (m := [some (.d a), some (.d b), some (.d c), none]) ?_ rfl
  refine V.seq_nx (V.set (r := .o (.d (.str "other"))) (m1 := [some (.d a), some (.d b), some (.d c), none]) (m2 := WS a b c "other") rfl rfl rfl) ?_
  refine V.seq_nx h ?_
  exact V.seq_rt rfl
theorem word_piece {k : Nat} {a b c : D} (h : wdB.runs (lev k) cs0 fuel (WS a b c "other") = .er "NoPiece" none) : lev (k + 1) "_law_word" [.d a, .d b, .d c] = .ok (.o (.d (.str "piece")), [.d a, .d b, .d c]) :=
  word_of (V.tri_er h (by decide +kernel) rfl rfl)
theorem word_num {k : Nat} {a b c : D} (h : wdB.runs (lev k) cs0 fuel (WS a b c "other") = .er "NoNumber" none) : lev (k + 1) "_law_word" [.d a, .d b, .d c] = .ok (.o (.d (.str "number")), [.d a, .d b, .d c]) :=
  word_of (V.tri_er h (by decide +kernel) rfl rfl)
theorem word_told {k : Nat} {a b c : D} (h : wdB.runs (lev k) cs0 fuel (WS a b c "other") = .ok (.nx (WS a b c "told"))) : lev (k + 1) "_law_word" [.d a, .d b, .d c] = .ok (.o (.d (.str "told")), [.d a, .d b, .d c]) :=
  word_of (V.tri_nx h)
theorem wd_cmp {k : Nat} {a : Nat} {b c : D} (j : Nat) : (Ex.p2 .eq (.var 0) (.int (j : Int))).ev (lev k) cs0 (WS (IN a) b c "other") = .ok (.p (.bool (decide (a = j))), WS (IN a) b c "other") := by
  have := V.p2 (cf := lev k) (cs := cs0) (p := .eq) (a := .var 0) (b := .int (j : Int)) (m := WS (IN a) b c "other") (r := .o (.d (IN a))) (m1 := WS (IN a) b c "other") rfl (q := .o (.d (IN j))) (m2 := WS (IN a) b c "other") rfl rfl S.q_eq
  rw [this]
  have e : decide (((a : Nat) : Int) = ((j : Nat) : Int)) = decide (a = j) := decide_eq_decide.mpr (by omega)
  rw [e]
def wA : Nat → Ex
  | 0 => .call "piece_size" (.r (.var 1) .nil)
  | 1 => .call "root_of" (.r (.var 1) .nil)
  | _ => .call "unrolled" (.r (.var 1) (.r (.var 2) .nil))
theorem wd_run {k a : Nat} {b c : D} (ha : a ≤ 2) {z : Res Out} (h : (St.ex (wA a)).run (lev k) cs0 fuel (WS (IN a) b c "other") = z) (hz : ∀ o, z = .ok o → o = .nx (WS (IN a) b c "other")) (hb : z ≠ .bad) : wdB.runs (lev k) cs0 fuel (WS (IN a) b c "other") = (match z with
    | .ok _ => .ok (.nx (WS (IN a) b c "told"))
    | .er e x => .er e x
    | .bad => .bad) := by
  have c0 := wd_cmp (k := k) (a := a) (b := b) (c := c) 0
  have c1 := wd_cmp (k := k) (a := a) (b := b) (c := c) 1
  have hs : ∀ s : St, s.run (lev k) cs0 fuel (WS (IN a) b c "other") = z → (Sts.cons s (.cons (.set 3 (.str "told")) .nil)).runs (lev k) cs0 fuel (WS (IN a) b c "other") = (match z with
    | .ok _ => .ok (.nx (WS (IN a) b c "told"))
    | .er e x => .er e x
    | .bad => .bad) := fun s hs => by
    cases z with
    | ok o =>
      have := hz o rfl
      subst this
      exact V.seq_nx hs (V.seq_nx (V.set (r := .o (.d (.str "told"))) (m1 := WS (IN a) b c "other") rfl rfl rfl) rfl)
    | er e x => exact V.seq_er hs
    | bad => exact absurd rfl hb
  have one : ∀ e : Ex, (St.ex e).run (lev k) cs0 fuel (WS (IN a) b c "other") = z → (Sts.cons (.ex e) .nil).runs (lev k) cs0 fuel (WS (IN a) b c "other") = z := fun e he => by
    cases z with
    | ok o =>
      have := hz o rfl
      subst this
      exact V.seq_nx he rfl
    | er e x => exact V.seq_er he
    | bad => exact absurd rfl hb
  have h012 : a = 0 ∨ a = 1 ∨ a = 2 := by omega
  rcases h012 with rfl | rfl | rfl
  · exact hs _ (V.if_t c0 (one _ h))
  · refine hs _ (V.if_f c0 ?_)
    have e1 := V.if_t (b := .cons (.ex (.call "unrolled" (.r (.var 1) (.r (.var 2) .nil)))) .nil) c1 (one _ h)
    cases z with
    | ok o =>
      have := hz o rfl
      subst this
      exact V.seq_nx e1 rfl
    | er e x => exact V.seq_er e1
    | bad => exact absurd rfl hb
  · refine hs _ (V.if_f c0 ?_)
    have e1 := V.if_f (a := .cons (.ex (.call "root_of" (.r (.var 1) .nil))) .nil) c1 (one _ h)
    cases z with
    | ok o =>
      have := hz o rfl
      subst this
      exact V.seq_nx e1 rfl
    | er e x => exact V.seq_er e1
    | bad => exact absurd rfl hb
theorem L_deep {n : Nat} : lev (n + 1) "_law_deep" [] = .ok (.o (.d (deep 20)), []) := by
  rw [lv_law_deep]
  rfl
theorem L_flag {n : Nat} (a : Bool) : lev (n + 1) "_law_flag" [.d (.bool a), .d (.bool a)] = .ok (.o (.d (.bool true)), [.d (.bool a), .d (.bool a)]) := by
  rw [lv_law_flag]
  cases a <;> rfl
end Oa

/-! Pieces drawn, parts of tuples, what is handed out. -/
namespace Oa
open PySem PySem.Spec PyProof.Rows L2
def Sts.drop : Nat → Sts → Sts
  | 0, s => s
  | n + 1, .cons _ r => Sts.drop n r
  | _, .nil => .nil
theorem ev_ix {cf : CfT} {cs : Str → Option D} {i : Nat} {a : Ex} {m m1 : Sl} {j : Int} {k0 : M} {xs : List D} {d : D} (h0 : m[i]? = some (some k0)) (h : a.ev cf cs m = .ok (.o (.d (.int j)), m1)) (h1 : m1[i]? = some (some (.v xs))) (hd : atI xs j = some d) : (Ex.ix i a).ev cf cs m = .ok (.o (.d d), m1) := by
  show atF (fun _ => true) i (intB (a.ev cf cs) (ixF i)) m = _
  unfold atF
  simp only [h0, if_true]
  rw [S.intB_eq, h]
  show ixF i j m1 = _
  unfold ixF
  simp only [h1]
  rw [S.q_idx_bv, hd]
  rfl
theorem at4 (a b c e : D) {j : Int} (h0 : 0 ≤ j) (h : j < 4) : ∃ x, atI [a, b, c, e] j = some x ∧ (x = a ∨ x = b ∨ x = c ∨ x = e) := by
  have : j = 0 ∨ j = 1 ∨ j = 2 ∨ j = 3 := by omega
  rcases this with rfl | rfl | rfl | rfl
  · exact ⟨a, rfl, .inl rfl⟩
  · exact ⟨b, rfl, .inr (.inl rfl)⟩
  · exact ⟨c, rfl, .inr (.inr (.inl rfl))⟩
  · exact ⟨e, rfl, .inr (.inr (.inr rfl))⟩
theorem w_draw {n i : Nat} {h : M} {m m1 : Sl} {x : Ex} {many : Int} {k : Nat} {h0 : M} (h0 : m[i]? = some (some h0)) (hx : x.ev (lev (k + 1)) cs0 m = .ok (.o (.d (.int many)), m1)) (hm : m1[i]? = some (some h)) (H : HandOk (n + 1) h) (h1 : 0 < many) (h2 : many < 1000000000) : ∃ r h', (Ex.call "_law_draw" (.w i (.r x .nil))).ev (lev (k + 1)) cs0 m = .ok (.o (.d (.int r)), m1.set i (some h')) ∧ 0 ≤ r ∧ r < many ∧ HandOk n h' := by
  obtain ⟨r, h', e, r0, r1, H'⟩ := L_draw (n := k) H h1 h2
  exact ⟨r, h', S.call_w h0 hx hm e, r0, r1, H'⟩
/-- trees, few -/
structure Few (most : Nat) (k : Nat) (q : Pc) : Prop where
  ne : q ≠ []
  good : ∀ t ∈ q, Good t ∧ t.length ≤ most
  least : Least q
  few : q.length ≤ k
theorem rep_mem {k : Nat} {p : Pc} {t : Tr} (h : t ∈ rep k p) : t ∈ p := by
  induction k with
  | zero => cases h
  | succ k ih =>
    rw [rep_succ] at h
    rcases List.mem_append.mp h with h | h
    · exact h
    · exact ih h
theorem rep_ne {k : Nat} {p : Pc} (hk : 0 < k) (h : p ≠ []) : rep k p ≠ [] := by
  intro e
  have := congrArg List.length e
  rw [rep_len, List.length_nil] at this
  have := List.length_pos_iff.mpr h
  have := Nat.mul_pos hk this
  omega
theorem L_piece {n c : Nat} {h : M} {most : Nat} (H : HandOk (c + 1100) h) (hm : 0 < most) (hm2 : most ≤ 8) : ∃ q h', lev (n + 3) "_law_piece" [h, .d (.int 4), .d (.int (most : Int))] = .ok (.o (.d (encP q)), [h', .d (.int 4), .d (.int (most : Int))]) ∧ Few most 12 q ∧ HandOk c h' := by
  rw [lv_law_piece]
  let Z : M → Option M → Option M → Sl := fun h a b => [some h, some (.d (.int 4)), some (.d (.int (most : Int))), a, b]
  obtain ⟨r, h1, e1, r0, r1, H1⟩ := w_draw (k := n + 1) (i := 0) (m := Z h none none) (m1 := Z h none none) (x := .frz 1) (many := 4) (n := c + 1050) rfl rfl rfl (H.mono (by omega)) (by omega) (by omega)
  obtain ⟨j, hj⟩ : ∃ j : Nat, 1 + r = (j : Int) := ⟨(1 + r).toNat, by omega⟩
  have hs : (Itx.rng1 (.p2 .add (.int 1) (.call "_law_draw" (.w 0 (.r (.frz 1) .nil))))).evi (lev (n + 2)) cs0 ((Ex.call "_law_tree" (.w 0 (.r (.frz 2) .nil))).pu && Exs.nil.pu) (Z h none none) = .ok (rngList 0 (j : Int), Z h1 none none) := by
    refine S.rng1_of (V.p2 (p := .add) (r := .o (.d (.int 1))) (m1 := Z h none none) rfl e1 rfl ?_) (by omega) (by omega)
    rw [S.f_add, S.q_add, hj]
  obtain ⟨m', acc', et, i, h2, ts, y, hi, hij, hlen, hts, rfl, rfl, H2⟩ := V.turns_inv (own := false) (t := .n 4) (cond := Exs.nil.evc (lev (n + 2)) cs0) (elt := (Ex.call "_law_tree" (.w 0 (.r (.frz 2) .nil))).ev (lev (n + 2)) cs0)
    (fun ds s acc => ∃ (i : Nat) (h' : M) (ts : List Tr) (y : Option M), ds = rngList (i : Int) (j : Int) ∧ i ≤ j ∧ ts.length = i ∧ (∀ t ∈ ts, Good t ∧ t.length ≤ most) ∧ acc = (ts.map enc).map .d ∧ s = Z h' none y ∧ HandOk (c + 10 + 200 * (j - i)) h') (by
    rintro q ds _ _ ⟨i, h', ts, y, hds, hij, hlen, hts, rfl, rfl, H'⟩
    by_cases hp : i < j
    case neg => rw [rng_nil (by omega)] at hds; cases hds
    rw [rng_cons (by omega)] at hds
    cases hds
    obtain ⟨t, h3, e3, hg, hl, H3⟩ := L_tree (n := n) (c := c + 10 + 200 * (j - (i + 1))) (most := most) (h := h') (H'.mono (by omega)) hm (by omega)
    have e4 : (Ex.call "_law_tree" (.w 0 (.r (.frz 2) .nil))).ev (lev (n + 2)) cs0 (Z h' none (some (.d (.int (i : Int))))) = .ok (.o (.d (enc t)), Z h3 none (some (.d (.int (i : Int))))) := S.call_w (m1 := Z h' none (some (.d (.int (i : Int))))) rfl rfl rfl e3
    refine ⟨Z h' none (some (.d (.int (i : Int)))), Z h' none (some (.d (.int (i : Int)))), rfl, .inr ⟨.o (.d (enc t)), _, .d (enc t), rfl, e4, rfl, ?_, i + 1, h3, ts ++ [t], _, rfl, by omega, by simp [hlen], ?_, ?_, rfl, H3⟩⟩
    · rw [List.length_map, List.length_map]
      show _ < 16777216
      omega
    · intro u hu
      rcases List.mem_append.mp hu with hu | hu
      · exact hts u hu
      · rw [List.mem_singleton] at hu
        subst hu
        exact ⟨hg, hl⟩
    · rw [List.map_append, List.map_append]
      rfl) (rngList 0 (j : Int)) (Z h1 none none) [] ⟨0, h1, [], none, rfl, Nat.zero_le _, rfl, (fun t h => by cases h), rfl, rfl, H1.mono (by omega)⟩
  have hij2 : i = j := by
    by_cases hp : i < j
    · rw [rng_cons (by omega)] at hi
      cases hi
    · omega
  have hne : ts ≠ [] := by
    intro e
    rw [e] at hlen
    simp at hlen
    omega
  have hc : (Ex.comp false (.call "_law_tree" (.w 0 (.r (.frz 2) .nil))) (.n 4) (.rng1 (.p2 .add (.int 1) (.call "_law_draw" (.w 0 (.r (.frz 1) .nil))))) .nil).ev (lev (n + 2)) cs0 (Z h none none) = .ok (.o (.v (ts.map enc)), Z h2 none none) := by
    rw [V.comp_of hs et]
    show Res.ok (Rv.o (.v (M.datas _)), _) = _
    rw [V.datas_d]
    rfl
  obtain ⟨r2, h3, e3, b0, b1, H3⟩ := w_draw (k := n + 1) (i := 0) (m := Z h2 (some (.d (encP ts))) none) (m1 := Z h2 (some (.d (encP ts))) none) (x := .int 4) (many := 4) (n := c) rfl rfl rfl (H2.mono (by omega)) (by omega) (by omega)
  obtain ⟨w, ew, hw1, hw2⟩ : ∃ w : Nat, atI [PyData.int 1, .int 1, .int 2, .int 3] r2 = some (.int (w : Int)) ∧ 1 ≤ w ∧ w ≤ 3 := by
    obtain ⟨x, ex, rfl | rfl | rfl | rfl⟩ := at4 (.int 1) (.int 1) (.int 2) (.int 3) b0 b1
    · exact ⟨1, ex, by omega, by omega⟩
    · exact ⟨1, ex, by omega, by omega⟩
    · exact ⟨2, ex, by omega, by omega⟩
    · exact ⟨3, ex, by omega, by omega⟩
  have hx : (Ex.p2 .mul (.var 3) (.p2 .idx (.lst false (.cons (.int 1) (.cons (.int 1) (.cons (.int 2) (.cons (.int 3) .nil))))) (.call "_law_draw" (.w 0 (.r (.int 4) .nil))))).ev (lev (n + 2)) cs0 (Z h2 (some (.d (encP ts))) none) = .ok (.o (.d (encP (rep w ts))), Z h3 (some (.d (encP ts))) none) := by
    refine V.p2 (p := .mul) (r := .o (.d (encP ts))) (q := .o (.d (.int (w : Int)))) (m1 := Z h2 (some (.d (encP ts))) none) rfl (V.p2 (p := .idx) (r := .o (.v [.int 1, .int 1, .int 2, .int 3])) (m1 := Z h2 (some (.d (encP ts))) none) rfl e3 rfl ?_) rfl (q_mulP hne hw1 (by omega) (by omega))
    rw [S.f_idx, S.q_idx_ov, ew]
    rfl
  have hlr : (rep w ts).length ≤ 12 := by
    rw [rep_len]
    have : w * ts.length ≤ 3 * 4 := Nat.mul_le_mul hw2 (by omega)
    omega
  obtain ⟨q, eq, q1, q2, q3⟩ := L_least (n := n + 1) (p := rep w ts) (rep_ne hw1 hne) (by omega)
  refine ⟨q, h3, V.def_rt (m := Z h3 (some (.d (encP ts))) none) ?_ rfl, ⟨fun e => ?_, fun t ht => hts t (rep_mem (q3 t ht)), q1, by omega⟩, H3⟩
  · refine V.seq_nx (V.set (r := .o (.d (encP ts))) (m1 := Z h2 none none) (m2 := Z h2 (some (.d (encP ts))) none) (V.p1 (p := .tuple) hc rfl) rfl rfl) ?_
    exact V.seq_rt (V.ret (S.call_d hx eq) rfl)
  · rw [e] at q2
    have := List.length_pos_iff.mpr (rep_ne hw1 hne)
    simp at q2
    omega
/-! ### tuples cut and joined -/
theorem slc_lo (xs : List D) (k : Nat) : Oa.P.slc xs (some (k : Int)) none = xs.drop k := by
  unfold Oa.P.slc
  rw [HT.sIx_nat, HT.sIx_none]
  by_cases h : k ≤ xs.length
  · rw [Nat.min_eq_left h]
    exact List.take_of_length_le (by rw [List.length_drop]; omega)
  · rw [Nat.min_eq_right (by omega), Nat.sub_self, List.take_zero, List.drop_of_length_le (by omega)]
theorem slc_hi (xs : List D) (k : Nat) : Oa.P.slc xs none (some (k : Int)) = xs.take k := by
  unfold Oa.P.slc
  rw [HT.sIx_nat, HT.sIx_none, Nat.sub_zero, List.drop_zero]
  by_cases h : k ≤ xs.length
  · rw [Nat.min_eq_left h]
  · rw [Nat.min_eq_right (by omega), List.take_of_length_le (Nat.le_refl _), List.take_of_length_le (by omega)]
section
variable {cf : CfT} {m m1 m2 : Sl} {a b : Ex} {xs ys : List D} {k : Nat}
theorem ev_lo (h : a.ev cf cs0 m = .ok (.o (.d (.tuple xs)), m1)) (g : b.ev cf cs0 m1 = .ok (.o (.d (.int (k : Int))), m2)) : (Ex.slL a b).ev cf cs0 m = .ok (.o (.d (.tuple (xs.drop k))), m2) := by
  rw [S.ev_slL, h]
  simp only [Res.bind_ok, g, S.isB_o, Bool.false_and, Bool.false_eq_true, if_false, S.m_o, S.int_i, S.i3_some]
  show (Res.ok (Rv.p (.tuple (Oa.P.slc xs (some (k : Int)) none)))).bind _ = _
  rw [slc_lo]
  rfl
theorem ev_hi (h : a.ev cf cs0 m = .ok (.o (.d (.tuple xs)), m1)) (g : b.ev cf cs0 m1 = .ok (.o (.d (.int (k : Int))), m2)) : (Ex.slH a b).ev cf cs0 m = .ok (.o (.d (.tuple (xs.take k))), m2) := by
  rw [S.ev_slH, h]
  simp only [Res.bind_ok, g, S.isB_o, Bool.false_and, Bool.false_eq_true, if_false, S.m_o, S.int_i, S.i3_some]
  show (Res.ok (Rv.p (.tuple (Oa.P.slc xs none (some (k : Int)))))).bind _ = _
  rw [slc_hi]
  rfl
theorem ev_jn (h : a.ev cf cs0 m = .ok (.o (.d (.tuple xs)), m1)) (g : b.ev cf cs0 m1 = .ok (.o (.d (.tuple ys)), m2)) (hl : xs.length + ys.length ≤ 16777216) : (Ex.p2 .add a b).ev cf cs0 m = .ok (.o (.d (.tuple (xs ++ ys))), m2) :=
  V.p2 (p := .add) h g rfl (by
    show (if xs.length + ys.length ≤ big then Res.ok (Rv.p (.tuple (xs ++ ys))) else .bad) = _
    rw [if_pos hl])
theorem ev_ii {i j : Int} (h : a.ev cf cs0 m = .ok (.o (.d (.int i)), m1)) (g : b.ev cf cs0 m1 = .ok (.o (.d (.int j)), m2)) : (Ex.p2 .add a b).ev cf cs0 m = .ok (.o (.d (.int (i + j))), m2) :=
  V.p2 (p := .add) h g rfl rfl
theorem ev_eqi {x : Nat} {i j : Int} (h : m[x]? = some (some (.d (.int i)))) : (Ex.p2 .eq (.var x) (.int j)).ev cf cs0 m = .ok (.p (.bool (decide (i = j))), m) :=
  V.p2 (p := .eq) (V.v_d h) (q := .o (.d (.int j))) (m2 := m) rfl rfl S.q_eq
end
theorem L_put {n k : Nat} {xs : List D} {y : D} (hl : xs.length ≤ 1000) : lev (n + 1) "_law_put" [.d (.tuple xs), .d (.int (k : Int)), .d y] = .ok (.o (.d (.tuple (xs.take k ++ [y] ++ xs.drop (k + 1)))), [.d (.tuple xs), .d (.int (k : Int)), .d y]) := by
  rw [lv_law_put]
  let m : Sl := [some (.d (.tuple xs)), some (.d (.int (k : Int))), some (.d y)]
  refine V.def_rt (m := m) ?_ rfl
  refine V.seq_rt (V.ret (r := .o (.d (.tuple (xs.take k ++ [y] ++ xs.drop (k + 1))))) (m1 := m) ?_ rfl)
  refine ev_jn (m1 := m) (ev_jn (m1 := m) (ev_hi (m1 := m) rfl rfl) rfl ?_) (ev_lo (k := k + 1) (m1 := m) rfl (ev_ii (i := (k : Int)) (j := 1) (m1 := m) (m2 := m) rfl rfl)) ?_
  · rw [List.length_take, List.length_singleton]; omega
  · simp only [List.length_append, List.length_take, List.length_drop, List.length_singleton]; omega
theorem atI_mem {α : Type} {xs : List α} {j : Int} (h0 : 0 ≤ j) (h : j < xs.length) : ∃ x ∈ xs, atI xs j = some x := by
  obtain ⟨i, rfl⟩ : ∃ i : Nat, j = (i : Int) := ⟨j.toNat, by omega⟩
  have hi : i < xs.length := by omega
  exact ⟨xs[i], List.getElem_mem hi, at_nat hi⟩
theorem n_draw {n i : Nat} {h : M} {m m1 : Sl} {x : Ex} {many : Nat} {k : Nat} {h0 : M} (h0 : m[i]? = some (some h0)) (hx : x.ev (lev (k + 1)) cs0 m = .ok (.o (.d (.int (many : Int))), m1)) (hm : m1[i]? = some (some h)) (H : HandOk (n + 1) h) (h1 : 0 < many) (h2 : many < 1000000) : ∃ (r : Nat) (h' : M), (Ex.call "_law_draw" (.w i (.r x .nil))).ev (lev (k + 1)) cs0 m = .ok (.o (.d (.int (r : Int))), m1.set i (some h')) ∧ r < many ∧ HandOk n h' := by
  obtain ⟨r, h', e, r0, r1, H'⟩ := w_draw (many := (many : Int)) h0 hx hm H (by omega) (by omega)
  obtain ⟨j, rfl⟩ : ∃ j : Nat, r = (j : Int) := ⟨r.toNat, by omega⟩
  exact ⟨j, h', e, by omega, H'⟩
/-! ### what is handed out -/
def Bt (x : D) : Prop := P.isTy (P.tyOf x) "tuple" = false ∨ ∃ xs, x = .tuple xs ∧ xs.length ≤ 60 ∧ ∀ y ∈ xs, TT y ∧ wd 5 y
theorem Bt.jd {x : D} : Bt x → ∃ g, Jd x g
  | .inl h => ⟨false, Jd.nt h⟩
  | .inr ⟨_, e, hl, h⟩ => by
    subst e
    exact jd_tuple (fun y hy => (h y hy).1) hl
theorem wd_nt {k : Nat} {x : D} (h : ∀ xs, x ≠ .tuple xs) : wd k x := by
  cases k with
  | zero => trivial
  | succ k =>
    cases x with
    | tuple xs => exact absurd rfl (h xs)
    | _ => trivial
theorem Bt.wd {x : D} : Bt x → wd 6 x
  | .inl h => wd_nt fun xs e => by
    subst e
    exact absurd h (by show ¬ P.isTy "tuple" "tuple" = false; decide)
  | .inr ⟨_, e, hl, h⟩ => by
    subst e
    exact ⟨by omega, fun y hy => (h y hy).2⟩
theorem wd_enc (k : Nat) {t : Tr} (h : t.length ≤ 1000) : Oa.wd k (enc t) := by
  cases k with
  | zero => trivial
  | succ k =>
    refine ⟨by rw [List.length_map]; exact h, fun y hy => ?_⟩
    obtain ⟨i, _, rfl⟩ := List.mem_map.mp hy
    exact wd_nt fun xs e => by cases e
theorem wd_deep : ∀ k n : Nat, Oa.wd k (deep n)
  | 0, _ => trivial
  | k + 1, 0 => ⟨by decide, fun y hy => by cases hy⟩
  | k + 1, n + 1 => ⟨by show 1 ≤ 1000; decide, fun y hy => by
    rw [List.mem_singleton] at hy
    subst hy
    exact wd_deep k n⟩
theorem it_enc {t : Tr} (h : Good t) (hl : t.length ≤ 40) : TT (enc t) ∧ wd 5 (enc t) := ⟨.good h hl, wd_enc 5 (by omega)⟩
theorem it_nt {x : D} (h : P.isTy (P.tyOf x) "tuple" = false) : TT x ∧ wd 5 x := ⟨.nt h, wd_nt fun xs e => by
  subst e
  exact absurd h (by show ¬ P.isTy "tuple" "tuple" = false; decide)⟩
theorem Bt.nt {x : D} (h : P.isTy (P.tyOf x) "tuple" = false) : Bt x := .inl h
theorem Few.its {p : Pc} (F : Few 8 12 p) : ∀ y ∈ p.map enc, TT y ∧ Oa.wd 5 y := fun y hy => by
  obtain ⟨t, ht, rfl⟩ := List.mem_map.mp hy
  exact it_enc (F.good t ht).1 (by have := (F.good t ht).2; omega)
theorem Bt.of {xs : List D} (hl : xs.length ≤ 60) (h : ∀ y ∈ xs, TT y ∧ Oa.wd 5 y) : Bt (.tuple xs) := .inr ⟨xs, rfl, hl, h⟩
theorem nt_list {xs : List D} : P.isTy (P.tyOf (.list xs)) "tuple" = false := by show P.isTy "list" "tuple" = false; decide
theorem nt_dict {xs : List (D × D)} : P.isTy (P.tyOf (.dict xs)) "tuple" = false := by show P.isTy "dict" "tuple" = false; decide
theorem nt_none : P.isTy (P.tyOf .none) "tuple" = false := by show P.isTy "NoneType" "tuple" = false; decide
theorem nt_str {s : Str} : P.isTy (P.tyOf (.str s)) "tuple" = false := by show P.isTy "str" "tuple" = false; decide
theorem nt_int {i : Int} : P.isTy (P.tyOf (.int i)) "tuple" = false := by show P.isTy "int" "tuple" = false; decide
theorem nt_bool {i : Bool} : P.isTy (P.tyOf (.bool i)) "tuple" = false := by show P.isTy "bool" "tuple" = false; decide
theorem Bt.enc {t : Tr} (hl : t.length ≤ 60) : Bt (enc t) := .of (by rw [List.length_map]; exact hl) fun y hy => by
  obtain ⟨i, _, rfl⟩ := List.mem_map.mp hy
  exact it_nt nt_int
theorem it_encP {p : Pc} (F : Few 8 12 p) : TT (encP p) ∧ Oa.wd 5 (encP p) := by
  obtain ⟨t, q, e⟩ := List.exists_cons_of_ne_nil F.ne
  refine ⟨?_, ?_⟩
  · rw [e]
    refine .odd (isI_not fun i z => by cases z) ?_
    have := F.few
    rw [e] at this
    rw [List.length_cons, List.length_map]
    rw [List.length_cons] at this
    omega
  · exact ⟨by rw [List.length_map]; have := F.few; omega, fun y hy => by
      obtain ⟨u, hu, rfl⟩ := List.mem_map.mp hy
      exact wd_enc 4 (by have := (F.good u hu).2; omega)⟩
/-- the odd ones at a place -/
def oddL (t : Tr) : List D := [.none, .tuple [], .tuple [.int 1], .tuple [.int 0, .int 2], .tuple [.int 0, .int 1, .int 1, .int 2], .tuple [.bool true], .tuple [.bool false], .list (t.map .int), .tuple [.int 0, .bool true], .str "0", deep 20]
theorem wd_small {xs : List D} (hl : xs.length ≤ 1000) (h : ∀ y ∈ xs, Oa.wd 4 y) : Oa.wd 5 (.tuple xs) := ⟨hl, h⟩
theorem oddL_it {t : Tr} : ∀ y ∈ oddL t, TT y ∧ Oa.wd 5 y := by
  intro y hy
  unfold oddL at hy
  simp only [List.mem_cons, List.not_mem_nil, or_false] at hy
  rcases hy with rfl | rfl | rfl | rfl | rfl | rfl | rfl | rfl | rfl | rfl | rfl
  · exact it_nt nt_none
  · exact ⟨.c0, wd_small (by decide) (by simp)⟩
  · exact ⟨.c1, wd_small (by decide) (by simp [Oa.wd])⟩
  · exact ⟨.c02, wd_small (by decide) (by simp [Oa.wd])⟩
  · exact ⟨.c0112, wd_small (by decide) (by simp [Oa.wd])⟩
  · exact ⟨.ct, wd_small (by decide) (by simp [Oa.wd])⟩
  · exact ⟨.cf, wd_small (by decide) (by simp [Oa.wd])⟩
  · exact it_nt nt_list
  · exact ⟨.c0b, wd_small (by decide) (by simp [Oa.wd])⟩
  · exact it_nt nt_str
  · exact ⟨.deep 20, wd_deep 5 20⟩
/-- the odd ones instead of the whole -/
def allL (p : Pc) (t : Tr) : List D := [.list (p.map Oa.enc), .none, .tuple [], .dict [], .str "piece", .int 0, .tuple [encP p], Oa.enc t, .bool true, deep 20]
theorem allL_bt {p : Pc} {t : Tr} (F : Few 8 12 p) (ht : t ∈ p) : ∀ y ∈ allL p t, Bt y := by
  intro y hy
  unfold allL at hy
  simp only [List.mem_cons, List.not_mem_nil, or_false] at hy
  rcases hy with rfl | rfl | rfl | rfl | rfl | rfl | rfl | rfl | rfl | rfl
  · exact .nt nt_list
  · exact .nt nt_none
  · exact .of (by decide) (by simp)
  · exact .nt nt_dict
  · exact .nt nt_str
  · exact .nt nt_int
  · exact .of (by show 1 ≤ 60; omega) fun y hy => by
      rw [List.mem_singleton] at hy
      subst hy
      exact it_encP F
  · exact .enc (by have := (F.good t ht).2; omega)
  · exact .nt nt_bool
  · exact .of (by decide) fun y hy => by
      rw [List.mem_singleton] at hy
      subst hy
      exact ⟨.deep 19, wd_deep 5 19⟩
end Oa

/-! A piece bent. -/
namespace Oa
open PySem PySem.Spec PyProof.Rows L2
theorem pieces_mem {p : Pc} {at_ : Nat} : (∀ y ∈ (p.map enc).drop at_, y ∈ p.map enc) ∧ ∀ y ∈ (p.map enc).take at_, y ∈ p.map enc :=
  ⟨fun _ h => List.mem_of_mem_drop h, fun _ h => List.mem_of_mem_take h⟩
theorem L_bent {n c : Nat} {h : M} {p : Pc} (H : HandOk (c + 300) h) (F : Few 8 12 p) : ∃ x h', lev (n + 3) "_law_bent" [h, .d (encP p)] = .ok (.o (.d x), [h', .d (encP p)]) ∧ Bt x ∧ HandOk c h' := by
  have hlen : 0 < p.length := List.length_pos_iff.mpr F.ne
  have hfew := F.few
  let Z : M → Option M → Option M → Option M → Sl := fun h a b c => [some h, some (.d (.tuple (p.map enc))), a, b, c]
  obtain ⟨r, h1, e1, r1, H1⟩ := n_draw (k := n) (i := 0) (m := Z h none none none) (m1 := Z h none none none) (x := .int 9) (many := 9) (n := c + 299) rfl rfl rfl (H.mono (by omega)) (by omega) (by omega)
  let Y : M → Option M → Option M → Sl := fun h b c => Z h (some (.d (.int (r : Int)))) b c
  obtain ⟨a, h2, e2, a1, H2⟩ := n_draw (k := n) (i := 0) (m := Y h1 none none) (m1 := Y h1 none none) (x := .p1 .len (.var 1)) (many := p.length) (n := c + 298) rfl (V.p1 (p := .len) (m1 := Y h1 none none) (r := .o (.d (encP p))) rfl (q_lenP p)) rfl (H1.mono (by omega)) hlen (by omega)
  let X : M → Option M → Sl := fun h c => Y h (some (.d (.int (a : Int)))) c
  have two : ∀ z h', (Sts.drop 2 f__law_bent.body).runs (lev (n + 2)) cs0 fuel (X h2 none) = .ok (.rt (.d z) (X h' none)) ∨ (∃ w, (Sts.drop 2 f__law_bent.body).runs (lev (n + 2)) cs0 fuel (X h2 none) = .ok (.rt (.d z) (X h' (some w)))) → lev (n + 3) "_law_bent" [h, .d (encP p)] = .ok (.o (.d z), [h', .d (encP p)]) := by
    intro z h' hz
    rw [lv_law_bent]
    have go : ∀ q : Option M, (Sts.drop 2 f__law_bent.body).runs (lev (n + 2)) cs0 fuel (X h2 none) = .ok (.rt (.d z) (X h' q)) → f__law_bent.body.runs (lev (n + 2)) cs0 fuel (slots0 5 [h, .d (encP p)]) = .ok (.rt (.d z) (X h' q)) := fun q hq =>
      V.seq_nx (V.set (r := .o (.d (.int (r : Int)))) (m1 := Z h1 none none none) (m2 := Y h1 none none) e1 rfl rfl) (V.seq_nx (V.set (r := .o (.d (.int (a : Int)))) (m1 := Y h2 none none) (m2 := X h2 none) e2 rfl rfl) hq)
    rcases hz with hz | ⟨w, hz⟩
    · exact V.def_rt (m := X h' none) (go none hz) rfl
    · exact V.def_rt (m := X h' (some w)) (go (some w) hz) rfl
  have ce : ∀ (h : M) (j : Nat), (Ex.p2 .eq (.var 2) (.int (j : Int))).ev (lev (n + 2)) cs0 (X h none) = .ok (.p (.bool (decide (r = j))), X h none) := by
    intro h j
    have := ev_eqi (cf := lev (n + 2)) (m := X h none) (x := 2) (i := (r : Int)) (j := (j : Int)) rfl
    rw [this]
    have e : decide ((r : Int) = (j : Int)) = decide (r = j) := decide_eq_decide.mpr (by omega)
    rw [e]
  have vp : ∀ (h : M) (q : Option M), (Ex.var 1).ev (lev (n + 2)) cs0 (X h q) = .ok (.o (.d (.tuple (p.map enc))), X h q) := fun _ _ => rfl
  have va : ∀ (h : M) (q : Option M), (Ex.var 3).ev (lev (n + 2)) cs0 (X h q) = .ok (.o (.d (.int (a : Int))), X h q) := fun _ _ => rfl
  have hits := F.its
  have hml : (p.map enc).length = p.length := List.length_map ..
  have nf : ∀ {j : Nat} {s : Sts} {rest : Sts} {z : Res Out}, r ≠ j → rest.runs (lev (n + 2)) cs0 fuel (X h2 none) = z → (Sts.cons (.ite (.p2 .eq (.var 2) (.int (j : Int))) s .nil) rest).runs (lev (n + 2)) cs0 fuel (X h2 none) = z := fun {j s rest z} hr hz => by
    have c0 := ce h2 j
    rw [decide_eq_false hr] at c0
    exact V.seq_nx (V.if_f c0 rfl) hz
  have tr : ∀ {e : Ex} {rest : Sts} {x : D} {h' : M}, e.ev (lev (n + 2)) cs0 (X h2 none) = .ok (.o (.d x), X h' none) → (Sts.cons (.ite (.p2 .eq (.var 2) (.int (r : Int))) (.cons (.ret e) .nil) .nil) rest).runs (lev (n + 2)) cs0 fuel (X h2 none) = .ok (.rt (.d x) (X h' none)) := fun {e rest x h'} he => by
    have c0 := ce h2 r
    rw [decide_eq_true rfl] at c0
    exact V.seq_rt (V.if_t c0 (V.seq_rt (V.ret he rfl)))
  have hr : r = 0 ∨ r = 1 ∨ r = 2 ∨ r = 3 ∨ r = 4 ∨ r = 5 ∨ 6 ≤ r := by omega
  obtain ⟨t, ht, et⟩ : ∃ t ∈ p, atI (p.map enc) (a : Int) = some (enc t) := by
    obtain ⟨x, hx, ex⟩ := atI_mem (xs := p.map enc) (j := (a : Int)) (by omega) (by omega)
    obtain ⟨t, ht, rfl⟩ := List.mem_map.mp hx
    exact ⟨t, ht, ex⟩
  obtain ⟨t0, ht0, et0⟩ : ∃ t ∈ p, atI (p.map enc) 0 = some (enc t) := by
    obtain ⟨x, hx, ex⟩ := atI_mem (xs := p.map enc) (j := 0) (by omega) (by omega)
    obtain ⟨t, ht, rfl⟩ := List.mem_map.mp hx
    exact ⟨t, ht, ex⟩
  by_cases h0 : r = 0
  · subst h0
    refine ⟨encP p, h2, two _ _ (.inl (tr (vp h2 none))), .of (by omega) hits, H2.mono (by omega)⟩
  by_cases h1' : r = 1
  · subst h1'
    obtain ⟨d, h3, e3, d1, H3⟩ := n_draw (k := n + 1) (i := 0) (m := X h2 none) (m1 := X h2 none) (x := .int 10) (many := 10) (n := c) rfl rfl rfl (H2.mono (by omega)) (by omega) (by omega)
    obtain ⟨x, hx, ex⟩ := atI_mem (xs := allL p t0) (j := (d : Int)) (by omega) (by show (d : Int) < 10; omega)
    refine ⟨x, h3, two _ _ (.inl (nf (by decide) (tr ?_))), allL_bt F ht0 x hx, H3⟩
    refine V.p2 (p := .idx) (r := .o (.v (allL p t0))) (m1 := X h2 none) ?_ e3 rfl (by rw [S.f_idx, S.q_idx_ov, ex]; rfl)
    have i0 : (Ex.p2 .idx (.var 1) (.int 0)).ev (lev (n + 2)) cs0 (X h2 none) = .ok (.o (.d (enc t0)), X h2 none) := V.p2 (p := .idx) (vp h2 none) (q := .o (.d (.int 0))) (m2 := X h2 none) rfl rfl (by rw [S.f_idx, S.q_idx_t, et0]; rfl)
    have i1 : (Ex.call "_law_deep" .nil).ev (lev (n + 2)) cs0 (X h2 none) = .ok (.o (.d (deep 20)), X h2 none) := V.call V.as_nil rfl rfl (L_deep (n := n + 1)) rfl rfl
    refine V.lst (rs := [.o (.v (p.map enc)), .o (.d .none), .o (.d (.tuple [])), .o (.m []), .o (.d (.str "piece")), .o (.d (.int 0)), .o (.d (.tuple [encP p])), .o (.d (enc t0)), .o (.d (.bool true)), .o (.d (deep 20))]) (m1 := X h2 none) ?_ rfl
    refine V.es_cons (V.p1 (p := .list) (vp h2 none) rfl) (m1 := X h2 none) ?_ rfl
    refine V.es_cons (m1 := X h2 none) rfl ?_ rfl
    refine V.es_cons (m1 := X h2 none) rfl ?_ rfl
    refine V.es_cons (m1 := X h2 none) rfl ?_ rfl
    refine V.es_cons (m1 := X h2 none) rfl ?_ rfl
    refine V.es_cons (m1 := X h2 none) rfl ?_ rfl
    refine V.es_cons (m1 := X h2 none) rfl ?_ rfl
    refine V.es_cons (m1 := X h2 none) i0 ?_ rfl
    refine V.es_cons (m1 := X h2 none) rfl ?_ rfl
    exact V.es_cons (m1 := X h2 none) i1 rfl rfl
  by_cases h2' : r = 2
  · subst h2'
    refine ⟨_, h2, two _ _ (.inl (nf (by decide) (nf (by decide) (tr (ev_jn (ev_lo (vp h2 none) (va h2 none)) (ev_hi (vp h2 none) (va h2 none)) ?_))))), .of ?_ ?_, H2.mono (by omega)⟩
    · rw [List.length_take, List.length_drop]; omega
    · rw [List.length_append, List.length_take, List.length_drop]; omega
    · intro y hy
      rcases List.mem_append.mp hy with hy | hy
      · exact hits y (pieces_mem.1 y hy)
      · exact hits y (pieces_mem.2 y hy)
  by_cases h3' : r = 3
  · subst h3'
    have j3 : (Ex.p2 .add (.var 3) (.int 1)).ev (lev (n + 2)) cs0 (X h2 none) = .ok (.o (.d (.int ((a + 1 : Nat) : Int))), X h2 none) := ev_ii (i := (a : Int)) (j := 1) (m2 := X h2 none) (va h2 none) rfl
    refine ⟨_, h2, two _ _ (.inl (nf (by decide) (nf (by decide) (nf (by decide) (tr (ev_jn (ev_hi (vp h2 none) (va h2 none)) (ev_lo (k := a + 1) (vp h2 none) j3) ?_)))))), .of ?_ ?_, H2.mono (by omega)⟩
    · rw [List.length_take, List.length_drop]; omega
    · rw [List.length_append, List.length_take, List.length_drop]; omega
    · intro y hy
      rcases List.mem_append.mp hy with hy | hy
      · exact hits y (pieces_mem.2 y hy)
      · exact hits y (pieces_mem.1 y hy)
  by_cases h4' : r = 4
  · subst h4'
    obtain ⟨u, h3, e3, hg, hl, H3⟩ := L_tree (n := n) (c := c + 10) (most := 4) (h := h2) (H2.mono (by omega)) (by omega) (by omega)
    have i3 : (Ex.call "_law_tree" (.w 0 (.r (.int 4) .nil))).ev (lev (n + 2)) cs0 (X h2 none) = .ok (.o (.d (enc u)), X h3 none) := S.call_w (m1 := X h2 none) rfl rfl rfl e3
    have i4 : (Ex.tup (.cons (.call "_law_tree" (.w 0 (.r (.int 4) .nil))) .nil)).ev (lev (n + 2)) cs0 (X h2 none) = .ok (.o (.d (.tuple [enc u])), X h3 none) := V.tup (V.es_cons i3 rfl rfl) rfl
    obtain ⟨d, h4, e4, d1, H4⟩ := n_draw (k := n + 1) (i := 0) (m := X h3 none) (m1 := X h3 none) (x := .int 2) (many := 2) (n := c) rfl rfl rfl (H3.mono (by omega)) (by omega) (by omega)
    have j4 : (Ex.p2 .add (.frz 3) (.call "_law_draw" (.w 0 (.r (.int 2) .nil)))).ev (lev (n + 2)) cs0 (X h3 none) = .ok (.o (.d (.int ((a + d : Nat) : Int))), X h4 none) := ev_ii (i := (a : Int)) (j := (d : Int)) (m1 := X h3 none) (m2 := X h4 none) rfl e4
    refine ⟨_, h4, two _ _ (.inl (nf (by decide) (nf (by decide) (nf (by decide) (nf (by decide) (tr (ev_jn (ev_jn (ev_hi (vp h2 none) (va h2 none)) i4 ?_) (ev_lo (k := a + d) (vp h3 none) j4) ?_))))))), .of ?_ ?_, H4⟩
    · rw [List.length_take, List.length_singleton]; omega
    · rw [List.length_append, List.length_take, List.length_singleton, List.length_drop]; omega
    · rw [List.length_append, List.length_append, List.length_take, List.length_singleton, List.length_drop]; omega
    · intro y hy
      rcases List.mem_append.mp hy with hy | hy
      · rcases List.mem_append.mp hy with hy | hy
        · exact hits y (pieces_mem.2 y hy)
        · rw [List.mem_singleton] at hy
          subst hy
          exact it_enc hg (by omega)
      · exact hits y (pieces_mem.1 y hy)
  by_cases h5' : r = 5
  · subst h5'
    refine ⟨.tuple (p.map enc).reverse, h2, two _ _ (.inl (nf (by decide) (nf (by decide) (nf (by decide) (nf (by decide) (nf (by decide) (tr (V.rev (vp h2 none) rfl)))))))), .of ?_ ?_, H2.mono (by omega)⟩
    · rw [List.length_reverse]; omega
    · intro y hy
      exact hits y (List.mem_reverse.mp hy)
  obtain ⟨d, h3, e3, d1, H3⟩ := n_draw (k := n + 1) (i := 0) (m := X h2 (some (.v (oddL t)))) (m1 := X h2 (some (.v (oddL t)))) (x := .int 11) (many := 11) (n := c) rfl rfl rfl (H2.mono (by omega)) (by omega) (by omega)
  obtain ⟨x, hx, ex⟩ := atI_mem (xs := oddL t) (j := (d : Int)) (by omega) (by show (d : Int) < 11; omega)
  have i1 : (Ex.call "_law_deep" .nil).ev (lev (n + 2)) cs0 (X h2 none) = .ok (.o (.d (deep 20)), X h2 none) := V.call V.as_nil rfl rfl (L_deep (n := n + 1)) rfl rfl
  have i2 : (Ex.p1 .list (.p2 .idx (.var 1) (.var 3))).ev (lev (n + 2)) cs0 (X h2 none) = .ok (.o (.v (t.map .int)), X h2 none) := V.p1 (p := .list) (r := .o (.d (enc t))) (V.p2 (p := .idx) (vp h2 none) (va h2 none) rfl (by rw [S.f_idx, S.q_idx_t, et]; rfl)) rfl
  have i3 : (Sts.drop 8 f__law_bent.body).runs (lev (n + 2)) cs0 fuel (X h2 none) = .ok (.rt (.d (.tuple ((p.map enc).take a ++ [x] ++ (p.map enc).drop (a + 1)))) (X h3 (some (.v (oddL t))))) := by
    refine V.seq_nx (V.set (r := .o (.v (oddL t))) (m1 := X h2 none) (m2 := X h2 (some (.v (oddL t)))) ?_ rfl rfl) ?_
    · refine V.lst (rs := [.o (.d .none), .o (.d (.tuple [])), .o (.d (.tuple [.int 1])), .o (.d (.tuple [.int 0, .int 2])), .o (.d (.tuple [.int 0, .int 1, .int 1, .int 2])), .o (.d (.tuple [.bool true])), .o (.d (.tuple [.bool false])), .o (.v (t.map .int)), .o (.d (.tuple [.int 0, .bool true])), .o (.d (.str "0")), .o (.d (deep 20))]) (m1 := X h2 none) ?_ rfl
      refine V.es_cons (m1 := X h2 none) rfl ?_ rfl
      refine V.es_cons (m1 := X h2 none) rfl ?_ rfl
      refine V.es_cons (m1 := X h2 none) rfl ?_ rfl
      refine V.es_cons (m1 := X h2 none) rfl ?_ rfl
      refine V.es_cons (m1 := X h2 none) rfl ?_ rfl
      refine V.es_cons (m1 := X h2 none) rfl ?_ rfl
      refine V.es_cons (m1 := X h2 none) rfl ?_ rfl
      refine V.es_cons (m1 := X h2 none) i2 ?_ rfl
      refine V.es_cons (m1 := X h2 none) rfl ?_ rfl
      refine V.es_cons (m1 := X h2 none) rfl ?_ rfl
      exact V.es_cons (m1 := X h2 none) i1 rfl rfl
    · refine V.seq_rt (V.ret (r := .o (.d (.tuple ((p.map enc).take a ++ [x] ++ (p.map enc).drop (a + 1))))) (m1 := X h3 (some (.v (oddL t)))) ?_ rfl)
      refine S.call_3 (m1 := X h2 (some (.v (oddL t)))) (m2 := X h2 (some (.v (oddL t)))) rfl rfl ?_ (L_put (n := n + 1) (k := a) (y := x) (xs := p.map enc) (by omega))
      exact ev_ix (k0 := .v (oddL t)) rfl e3 rfl ex
  refine ⟨_, h3, two _ _ (.inr ⟨_, nf (j := 0) h0 (nf (j := 1) h1' (nf (j := 2) h2' (nf (j := 3) h3' (nf (j := 4) h4' (nf (j := 5) h5' i3)))))⟩), .of ?_ ?_, H3⟩
  · simp only [List.length_append, List.length_take, List.length_drop, List.length_singleton]; omega
  · intro y hy
    rcases List.mem_append.mp hy with hy | hy
    · rcases List.mem_append.mp hy with hy | hy
      · exact hits y (pieces_mem.2 y hy)
      · rw [List.mem_singleton] at hy
        subst hy
        exact oddL_it y hx
    · exact hits y (pieces_mem.1 y hy)
end Oa

/-! The words told. -/
namespace Oa
open PySem PySem.Spec PyProof.Rows L2
theorem er_call1 {n : Nat} {f g : Str} {r : Sts} {x : D} {c : Str} (hg : lev n g [.d x] = .er c none) : (Sts.cons (.ex (.call g (.r (.var 0) .nil))) r).runs (lev n) cs0 fuel [some (.d x)] = .er c none :=
  V.seq_er (V.ex_er (V.call_er (as := [.r (.o (.d x))]) (m1 := [some (.d x)]) (V.as_r (V.v_d rfl) V.as_nil rfl) rfl rfl hg))
theorem er_psize {n : Nat} {x : D} (j : Jd x false) : lev (n + 8) "piece_size" [.d x] = .er "NoPiece" none := by
  rw [lv_piece_size]
  exact V.def_er (er_call1 (f := "piece_size") (L_cp_er (n := n) j))
theorem er_rootof {n : Nat} {x : D} (j : Jd x false) : lev (n + 8) "root_of" [.d x] = .er "NoPiece" none := by
  rw [lv_root_of]
  exact V.def_er (er_call1 (f := "root_of") (L_cp_er (n := n) j))
theorem er_unr1 {n : Nat} {x t : D} (j : Jd x false) : lev (n + 8) "unrolled" [.d x, .d t] = .er "NoPiece" none := by
  rw [lv_unrolled]
  exact V.def_er (V.seq_er (V.ex_er (V.call_er (as := [.r (.o (.d x))]) (m1 := [some (.d x), some (.d t)]) (V.as_r (V.v_d rfl) V.as_nil rfl) rfl rfl (L_cp_er (n := n) j))))
theorem er_unr2 {n : Nat} {p : Pc} {t : D} (h : PcOk p) (hl : p.length ≤ 1000) (ht : inR t 1 1000 = false) : lev (n + 8) "unrolled" [.d (encP p), .d t] = .er "NoNumber" none := by
  rw [lv_unrolled]
  refine V.def_er (V.seq_nx (V.ex (S.call_d (m1 := [some (.d (encP p)), some (.d t)]) rfl (L_checkp (n := n + 1) h hl))) ?_)
  exact V.seq_er (V.ex_er (V.call_er (as := [.r (.o (.d t)), .r (.o (.d (.int 1))), .r (.o (.d (.int 1000)))]) (m1 := [some (.d (encP p)), some (.d t)]) (V.as_r (V.v_d rfl) (V.as_r rfl (V.as_r rfl V.as_nil rfl) rfl) rfl) rfl rfl (L_chk_er (n := n + 4) ht)))
theorem wd_piece {n a : Nat} {x c : D} (ha : a ≤ 2) (h : (St.ex (wA a)).run (lev n) cs0 fuel (WS (IN a) x c "other") = .er "NoPiece" none) : lev (n + 1) "_law_word" [.d (IN a), .d x, .d c] = .ok (.o (.d (.str "piece")), [.d (IN a), .d x, .d c]) :=
  word_piece (wd_run ha h (fun o e => by cases e) (fun e => by cases e))
theorem wd_num {n a : Nat} {x c : D} (ha : a ≤ 2) (h : (St.ex (wA a)).run (lev n) cs0 fuel (WS (IN a) x c "other") = .er "NoNumber" none) : lev (n + 1) "_law_word" [.d (IN a), .d x, .d c] = .ok (.o (.d (.str "number")), [.d (IN a), .d x, .d c]) :=
  word_num (wd_run ha h (fun o e => by cases e) (fun e => by cases e))
theorem wd_told {n a : Nat} {x c : D} (ha : a ≤ 2) (h : (St.ex (wA a)).run (lev n) cs0 fuel (WS (IN a) x c "other") = .ok (.nx (WS (IN a) x c "other"))) : lev (n + 1) "_law_word" [.d (IN a), .d x, .d c] = .ok (.o (.d (.str "told")), [.d (IN a), .d x, .d c]) :=
  word_told (wd_run ha h (fun o e => by cases e; rfl) (fun e => by cases e))
def wG (g : Bool) : Str := if g = true then "told" else "piece"
theorem word0 {n : Nat} {x c : D} {g : Bool} (j : Jd x g) : lev (n + 9) "_law_word" [.d (IN 0), .d x, .d c] = .ok (.o (.d (.str (wG g))), [.d (IN 0), .d x, .d c]) := by
  cases g with
  | false => exact wd_piece (n := n + 8) (by omega) (V.ex_er (V.call_er (as := [.r (.o (.d x))]) (m1 := WS (IN 0) x c "other") (V.as_r (V.v_d rfl) V.as_nil rfl) rfl rfl (er_psize (n := n) j)))
  | true =>
    obtain ⟨p, rfl, hp, hl, _⟩ := j.good rfl
    exact wd_told (n := n + 8) (by omega) (V.ex (S.call_d (V.v_d rfl) (L_psize (n := n + 1) hp (by omega))))
theorem word1 {n : Nat} {x c : D} {g : Bool} (j : Jd x g) : lev (n + 9) "_law_word" [.d (IN 1), .d x, .d c] = .ok (.o (.d (.str (wG g))), [.d (IN 1), .d x, .d c]) := by
  cases g with
  | false => exact wd_piece (n := n + 8) (by omega) (V.ex_er (V.call_er (as := [.r (.o (.d x))]) (m1 := WS (IN 1) x c "other") (V.as_r (V.v_d rfl) V.as_nil rfl) rfl rfl (er_rootof (n := n) j)))
  | true =>
    obtain ⟨p, rfl, hp, hl, _⟩ := j.good rfl
    obtain ⟨d, e, _⟩ := L_rootof (n := n + 1) hp (by omega)
    exact wd_told (n := n + 8) (by omega) (V.ex (S.call_d (V.v_d rfl) e))
def wH (g : Bool) (t : D) : Str := if g = true then (if inR t 1 1000 = true then "told" else "number") else "piece"
theorem word2 {n : Nat} {x t : D} {g : Bool} (j : Jd x g) : lev (n + 9) "_law_word" [.d (IN 2), .d x, .d t] = .ok (.o (.d (.str (wH g t))), [.d (IN 2), .d x, .d t]) := by
  cases g with
  | false => exact wd_piece (n := n + 8) (by omega) (V.ex_er (V.call_er (as := [.r (.o (.d x)), .r (.o (.d t))]) (m1 := WS (IN 2) x t "other") (V.as_r (V.v_d rfl) (V.as_r (V.v_d rfl) V.as_nil rfl) rfl) rfl rfl (er_unr1 (n := n) j)))
  | true =>
    obtain ⟨p, rfl, hp, hl, _⟩ := j.good rfl
    unfold wH
    rw [if_pos rfl]
    cases ht : inR t 1 1000 with
    | false =>
      rw [if_neg (by decide)]
      exact wd_num (n := n + 8) (by omega) (V.ex_er (V.call_er (as := [.r (.o (.d (encP p))), .r (.o (.d t))]) (m1 := WS (IN 2) (encP p) t "other") (V.as_r (V.v_d rfl) (V.as_r (V.v_d rfl) V.as_nil rfl) rfl) rfl rfl (er_unr2 (n := n) hp (by omega) ht)))
    | true =>
      rw [if_pos rfl]
      have hi : ∃ k : Nat, t = .int (k : Int) ∧ 1 ≤ k ∧ k ≤ 1000 := by
        cases t with
        | int i =>
          have h2 : (decide ((1 : Int) ≤ i) && decide (i ≤ 1000)) = true := ht
          rw [Bool.and_eq_true, decide_eq_true_eq, decide_eq_true_eq] at h2
          exact ⟨i.toNat, congrArg PyData.int (by omega), by omega, by omega⟩
        | _ => cases ht
      obtain ⟨k, rfl, k1, k2⟩ := hi
      exact wd_told (n := n + 8) (by omega) (V.ex (S.call_2 (V.v_d rfl) (V.v_d rfl) (L_unroll (n := n + 1) hp (by omega) k1 k2)))
theorem ne_same {w : Str} : P.ne [.o (.d (.str w)), .o (.d (.str w))] = .ok (.o (.d (.bool false))) := by
  rw [q_ne_of (a := .d (.str w)) (b := .d (.str w)) rfl rfl rfl rfl rfl rfl (Nat.zero_le 60)]
  rw [show PyData.eqv (M.d (.str w)).data (M.d (.str w)).data = true from PySem.SeqAt.eqv_refl_plain _ rfl]
  rfl
/-- in, by the law's own words -/
theorem L_in {n x : Nat} {t : D} {m : Sl} (h : m[x]? = some (some (.d t))) : (Ex.and (.call "_law_is_integer" (.r (.var x) .nil)) (.cmp2 .le .le (.int 1) (.var x) (.int 1000))).ev (lev (n + 1)) cs0 m = .ok (.p (.bool (inR t 1 1000)), m) := by
  have i1 : (Ex.call "_law_is_integer" (.r (.var x) .nil)).ev (lev (n + 1)) cs0 m = .ok (.p (.bool (isI t)), m) := S.call_d (V.v_d h) (L_lisi t)
  cases e : isI t with
  | false =>
    rw [e] at i1
    rw [inR_isI e]
    exact V.and_f i1
  | true =>
    rw [e] at i1
    obtain ⟨i, rfl⟩ := isI_int e
    exact V.and_t i1 (cmp_in (x := 0) (z := 0) rfl h rfl)
/-- a heap of one -/
theorem L_one {n : Nat} {g : Bool} {xs : List D} {m : Sl} (j : Jd (.tuple xs) g) (hk : tupKey0 (.tuple xs) = true) (h : m[4]? = some (some (.d (.tuple xs)))) : (Ex.call "is_heap" (.r (.dct1 (.var 4) (.int 1)) .nil)).ev (lev (n + 7)) cs0 m = .ok (.p (.bool g), m) := by
  have e1 : (Ex.dct1 (.var 4) (.int 1)).ev (lev (n + 7)) cs0 m = .ok (.o (.m [(.tuple xs, .int 1)]), m) := by
    show dct1F ((Ex.var 4).ev (lev (n + 7)) cs0) ((Ex.int 1).ev (lev (n + 7)) cs0) m = _
    unfold dct1F
    rw [V.v_d h]
    simp only [Res.bind_ok]
    show (if tupKey0 (.tuple xs) = true then Res.ok (Rv.o (.m [(.tuple xs, .int 1)]), m) else .bad) = _
    rw [if_pos hk]
  exact V.call (as := [.r (.o (.m [(.tuple xs, .int 1)]))]) (m1 := m) (V.as_r e1 V.as_nil rfl) rfl rfl (L_heap1 (n := n) j hk) rfl rfl
end Oa

/-! The law. -/
namespace Oa
open PySem PySem.Spec PyProof.Rows L2
def tB : Sts := Sts.forB f_law.body.tl.hd
abbrev LW (S0 h : M) (a b c d e f g : Option M) : Sl := [some S0, some h, a, b, c, d, e, f, g]
theorem Few.more {p : Pc} {k : Nat} (hk : k ≤ 8) (F : Few k 12 p) : Few 8 12 p := ⟨F.ne, fun t ht => ⟨(F.good t ht).1, Nat.le_trans (F.good t ht).2 hk⟩, F.least, F.few⟩
theorem turn {S0 h : M} {c : Nat} (H : HandOk (c + 4000) h) (x2 x3 x4 x5 x6 x7 : Option M) : ∃ h' y3 y4 y5 y6 y7, tB.runs (lev 99) cs0 fuel (LW S0 h x2 x3 x4 x5 x6 x7 none) = .ok (.nx (LW S0 h' x2 y3 y4 y5 y6 y7 none)) ∧ HandOk c h' := by
  let A0 : M → Sl := fun h => LW S0 h x2 x3 x4 x5 x6 x7 none
  -- the piece
  obtain ⟨r1, h1, e1, q1, H1⟩ := n_draw (k := 98) (i := 1) (m := A0 h) (m1 := A0 h) (x := .int 2) (many := 2) (n := c + 3900) rfl rfl rfl (H.mono (by omega)) (by omega) (by omega)
  obtain ⟨k, ek, k0, k1⟩ : ∃ k : Nat, atI [PyData.int 3, .int 8] (r1 : Int) = some (.int (k : Int)) ∧ 0 < k ∧ k ≤ 8 := by
    have : r1 = 0 ∨ r1 = 1 := by omega
    rcases this with rfl | rfl
    · exact ⟨3, rfl, by omega, by omega⟩
    · exact ⟨8, rfl, by omega, by omega⟩
  have c1 : (Ex.p2 .idx (.lst false (.cons (.int 3) (.cons (.int 8) .nil))) (.call "_law_draw" (.w 1 (.r (.int 2) .nil)))).ev (lev 99) cs0 (A0 h) = .ok (.o (.d (.int (k : Int))), A0 h1) :=
    V.p2 (p := .idx) (r := .o (.v [.int 3, .int 8])) (m1 := A0 h) rfl e1 rfl (by rw [S.f_idx, S.q_idx_ov, ek]; rfl)
  obtain ⟨p, h2, e2, F0, H2⟩ := L_piece (n := 96) (c := c + 2800) (h := h1) (H1.mono (by omega)) k0 k1
  have F := F0.more k1
  let A1 : M → Sl := fun h => LW S0 h x2 (some (.d (encP p))) x4 x5 x6 x7 none
  have s1 : (Ex.call "_law_piece" (.w 1 (.r (.int 4) (.r (.p2 .idx (.lst false (.cons (.int 3) (.cons (.int 8) .nil))) (.call "_law_draw" (.w 1 (.r (.int 2) .nil)))) .nil)))).ev (lev 99) cs0 (A0 h) = .ok (.o (.d (encP p)), A0 h2) := S.call_w2 (m1 := A0 h) (m2 := A0 h1) rfl rfl c1 rfl e2
  -- bent
  obtain ⟨x, h3, e3, B, H3⟩ := L_bent (n := 96) (c := c + 2000) (h := h2) (H2.mono (by omega)) F
  let A2 : M → Sl := fun h => LW S0 h x2 (some (.d (encP p))) (some (.d x)) x5 x6 x7 none
  have s2 : (Ex.call "_law_bent" (.w 1 (.r (.frz 3) .nil))).ev (lev 99) cs0 (A1 h2) = .ok (.o (.d x), A1 h3) := S.call_w (m1 := A1 h2) rfl rfl rfl e3
  obtain ⟨g, j⟩ := B.jd
  let A3 : M → Sl := fun h => LW S0 h x2 (some (.d (encP p))) (some (.d x)) (some (.d (.bool g))) x6 x7 none
  have s3 : (Ex.call "_law_is_piece" (.r (.var 4) .nil)).ev (lev 99) cs0 (A2 h3) = .ok (.o (.d (.bool g)), A2 h3) := S.call_d (V.v_d rfl) (j.la 39)
  have s4 : (Ex.not (.call "_law_flag" (.r (.call "is_piece" (.r (.var 4) .nil)) (.r (.var 5) .nil)))).ev (lev 99) cs0 (A3 h3) = .ok (.p (.bool false), A3 h3) :=
    V.not (S.call_2 (m1 := A3 h3) (S.call_d (V.v_d rfl) (j.pr 93)) (V.v_d rfl) (L_flag (n := 98) g))
  let A4 : M → Sl := fun h => LW S0 h x2 (some (.d (encP p))) (some (.d x)) (some (.d (.bool g))) (some (.d (.str (wG g)))) x7 none
  have s5 : (Ex.ite (.var 5) (.str "told") (.str "piece")).ev (lev 99) cs0 (A3 h3) = .ok (.o (.d (.str (wG g))), A3 h3) := by
    cases hg : g with
    | true => exact V.ite_t (m1 := A3 h3) (by rw [← hg]; exact V.v_d rfl) rfl
    | false => exact V.ite_f (m1 := A3 h3) (by rw [← hg]; exact V.v_d rfl) rfl
  have s6 : (Ex.or (.p2 .ne (.call "_law_word" (.r (.int 0) (.r (.var 4) (.r .non .nil)))) (.var 6)) (.p2 .ne (.call "_law_word" (.r (.int 1) (.r (.var 4) (.r .non .nil)))) (.var 6))).ev (lev 99) cs0 (A4 h3) = .ok (.p (.bool false), A4 h3) := by
    refine V.or_f (m1 := A4 h3) (V.p2 (p := .ne) (m1 := A4 h3) (S.call_3 (m1 := A4 h3) (m2 := A4 h3) (m3 := A4 h3) (d := IN 0) (e := x) (g := .none) rfl (V.v_d rfl) rfl (word0 (n := 90) j)) (V.v_d rfl) rfl ne_same) ?_
    exact V.p2 (p := .ne) (m1 := A4 h3) (S.call_3 (m1 := A4 h3) (m2 := A4 h3) (m3 := A4 h3) (d := IN 1) (e := x) (g := .none) rfl (V.v_d rfl) rfl (word1 (n := 90) j)) (V.v_d rfl) rfl ne_same
  -- how often
  obtain ⟨r2, h4, e4, q2, H4⟩ := n_draw (k := 98) (i := 1) (m := A4 h3) (m1 := A4 h3) (x := .int 60) (many := 60) (n := c + 1000) rfl rfl rfl (H3.mono (by omega)) (by omega) (by omega)
  let ts : List D := [.int 1, .int 1000, .int (1 + (r2 : Int)), .int 0, .int 1001, .int (-1), .bool true, .none, .str "2", .tuple [.int 2], .int (10 ^ 30), deep 20]
  have c2 : (Ex.p2 .add (.int 1) (.call "_law_draw" (.w 1 (.r (.int 60) .nil)))).ev (lev 99) cs0 (A4 h3) = .ok (.o (.d (.int (1 + (r2 : Int)))), A4 h4) := ev_ii (m1 := A4 h3) rfl e4
  have c3 : (Ex.call "_law_deep" .nil).ev (lev 99) cs0 (A4 h4) = .ok (.o (.d (deep 20)), A4 h4) := V.call V.as_nil rfl rfl (L_deep (n := 98)) rfl rfl
  have c4 : (Ex.p2 .pow (.int 10) (.int 30)).ev (lev 99) cs0 (A4 h4) = .ok (.o (.d (.int (10 ^ 30))), A4 h4) := V.p2 (p := .pow) (m1 := A4 h4) (m2 := A4 h4) (r := .o (.d (.int 10))) (q := .o (.d (.int 30))) rfl rfl rfl rfl
  let A5 : M → D → Sl := fun h t => LW S0 h x2 (some (.d (encP p))) (some (.d x)) (some (.d (.bool g))) (some (.d (.str (wG g)))) (some (.d t)) none
  let A5v : M → Sl := fun h => LW S0 h x2 (some (.d (encP p))) (some (.d x)) (some (.d (.bool g))) (some (.d (.str (wG g)))) (some (.v ts)) none
  obtain ⟨r3, h5, e5, q3, H5⟩ := n_draw (k := 98) (i := 1) (m := A5v h4) (m1 := A5v h4) (x := .int 12) (many := 12) (n := c) rfl rfl rfl (H4.mono (by omega)) (by omega) (by omega)
  obtain ⟨t, ht, et⟩ := atI_mem (xs := ts) (j := (r3 : Int)) (by omega) (by show (r3 : Int) < 12; omega)
  have s7 : (Ex.lst false (.cons (.int 1) (.cons (.int 1000) (.cons (.p2 .add (.int 1) (.call "_law_draw" (.w 1 (.r (.int 60) .nil)))) (.cons (.int 0) (.cons (.int 1001) (.cons (.neg (.int 1)) (.cons (.bl true) (.cons .non (.cons (.str "2") (.cons (.tup (.cons (.int 2) .nil)) (.cons (.p2 .pow (.int 10) (.int 30)) (.cons (.call "_law_deep" .nil) .nil))))))))))))).ev (lev 99) cs0 (A4 h3) = .ok (.o (.v ts), A4 h4) := by
    refine V.lst (rs := [.o (.d (.int 1)), .o (.d (.int 1000)), .o (.d (.int (1 + (r2 : Int)))), .o (.d (.int 0)), .o (.d (.int 1001)), .o (.d (.int (-1))), .o (.d (.bool true)), .o (.d .none), .o (.d (.str "2")), .o (.d (.tuple [.int 2])), .o (.d (.int (10 ^ 30))), .o (.d (deep 20))]) (m1 := A4 h4) ?_ rfl
    refine V.es_cons (m1 := A4 h3) rfl ?_ rfl
    refine V.es_cons (m1 := A4 h3) rfl ?_ rfl
    refine V.es_cons (m1 := A4 h4) c2 ?_ rfl
    refine V.es_cons (m1 := A4 h4) rfl ?_ rfl
    refine V.es_cons (m1 := A4 h4) rfl ?_ rfl
    refine V.es_cons (m1 := A4 h4) rfl ?_ rfl
    refine V.es_cons (m1 := A4 h4) rfl ?_ rfl
    refine V.es_cons (m1 := A4 h4) rfl ?_ rfl
    refine V.es_cons (m1 := A4 h4) rfl ?_ rfl
    refine V.es_cons (m1 := A4 h4) rfl ?_ rfl
    refine V.es_cons (m1 := A4 h4) c4 ?_ rfl
    exact V.es_cons (m1 := A4 h4) c3 rfl rfl
  have s8 : (Ex.ix 7 (.call "_law_draw" (.w 1 (.r (.int 12) .nil)))).ev (lev 99) cs0 (A5v h4) = .ok (.o (.d t), A5v h5) := ev_ix (k0 := .v ts) rfl e5 rfl et
  let A6 : Sl := LW S0 h5 x2 (some (.d (encP p))) (some (.d x)) (some (.d (.bool g))) (some (.d (.str (wH g t)))) (some (.d t)) none
  have s9 : (St.ite (.and (.var 5) (.not (.and (.call "_law_is_integer" (.r (.var 7) .nil)) (.cmp2 .le .le (.int 1) (.var 7) (.int 1000))))) (.cons (.set 6 (.str "number")) .nil) .nil).run (lev 99) cs0 fuel (A5 h5 t) = .ok (.nx A6) := by
    have ci := L_in (n := 98) (x := 7) (t := t) (m := A5 h5 t) rfl
    have v5 : (Ex.var 5).ev (lev 99) cs0 (A5 h5 t) = .ok (.p (.bool g), A5 h5 t) := V.v_d rfl
    cases hg : g with
    | false =>
      have : A6 = A5 h5 t := by
        show LW S0 h5 x2 _ _ _ (some (.d (.str (wH g t)))) _ _ = LW S0 h5 x2 _ _ _ (some (.d (.str (wG g)))) _ _
        rw [hg]
        rfl
      rw [this]
      exact V.if_f (V.and_f (by rw [← hg]; exact v5)) rfl
    | true =>
      cases hi : inR t 1 1000 with
      | true =>
        rw [hi] at ci
        have : A6 = A5 h5 t := by
          show LW S0 h5 x2 _ _ _ (some (.d (.str (wH g t)))) _ _ = LW S0 h5 x2 _ _ _ (some (.d (.str (wG g)))) _ _
          unfold wH
          rw [hg, hi]
          rfl
        rw [this]
        exact V.if_f (V.and_t (by rw [← hg]; exact v5) (V.not ci)) rfl
      | false =>
        rw [hi] at ci
        have e : wH g t = "number" := by
          unfold wH
          rw [hg, hi]
          rfl
        refine V.if_t (V.and_t (by rw [← hg]; exact v5) (V.not ci)) ?_
        refine V.seq_nx (V.set (r := .o (.d (.str "number"))) (m1 := A5 h5 t) (m2 := A6) rfl rfl ?_) rfl
        show some (LW S0 h5 x2 _ _ _ (some (.d (.str "number"))) _ _) = some (LW S0 h5 x2 _ _ _ (some (.d (.str (wH g t)))) _ _)
        rw [e]
  have s10 : (Ex.p2 .ne (.call "_law_word" (.r (.int 2) (.r (.var 4) (.r (.var 7) .nil)))) (.var 6)).ev (lev 99) cs0 A6 = .ok (.p (.bool false), A6) :=
    V.p2 (p := .ne) (m1 := A6) (S.call_3 (m1 := A6) (m2 := A6) (m3 := A6) (d := IN 2) (e := x) (g := t) rfl (V.v_d rfl) (V.v_d rfl) (word2 (n := 90) j)) (V.v_d rfl) rfl ne_same
  have v5 : (Ex.var 5).ev (lev 99) cs0 A6 = .ok (.p (.bool g), A6) := V.v_d rfl
  have s11 : (Ex.and (.var 5) (.or (.p2 .ne (.call "piece_size" (.r (.var 4) .nil)) (.p1 .sum (.comp false (.p1 .len (.var 8)) (.n 8) (.ex (.var 4)) .nil))) (.p2 .isnot (.call "is_heap" (.r (.dct1 (.var 4) (.int 1)) .nil)) (.bl true)))).ev (lev 99) cs0 A6 = .ok (.p (.bool false), A6) := by
    cases hg : g with
    | false => exact V.and_f (by rw [← hg]; exact v5)
    | true =>
      refine V.and_t (by rw [← hg]; exact v5) ?_
      have j2 := j
      rw [hg] at j2
      obtain ⟨q, hq, hp, hl, _⟩ := j2.good rfl
      subst hq
      have a1 : (Ex.call "piece_size" (.r (.var 4) .nil)).ev (lev 99) cs0 A6 = .ok (.o (.d (.int (wtP q : Nat))), A6) := S.call_d (V.v_d rfl) (L_psize (n := 92) hp (by omega))
      have a2 : (Ex.comp false (.p1 .len (.var 8)) (.n 8) (.ex (.var 4)) .nil).ev (lev 99) cs0 A6 = .ok (.o (.v (q.map fun t => .int ((t.length : Nat) : Int))), A6) :=
        V.comp_map (m1 := A6) enc q (LW S0 h5 x2 (some (.d (encP p))) (some (.d (encP q))) (some (.d (.bool g))) (some (.d (.str (wH g t)))) (some (.d t)) none) (fun u => LW S0 h5 x2 (some (.d (encP p))) (some (.d (encP q))) (some (.d (.bool g))) (some (.d (.str (wH g t)))) (some (.d t)) (some (.d (enc u)))) (fun u => .int ((u.length : Nat) : Int)) rfl rfl (fun u hu => ⟨rfl, rfl, .o (.d (.int ((u.length : Nat) : Int))), V.p1 (p := .len) (V.v_d rfl) (q_len_enc u), rfl⟩) (Nat.le_trans hl (by decide)) rfl (fun _ _ => rfl)
      have a3 : P.sum [.o (.v (q.map fun t => .int ((t.length : Nat) : Int)))] = .ok (.o (.d (.int (wtP q : Nat)))) := by
        have := sum_ints (q.map fun t => ((t.length : Nat) : Int))
        rw [List.map_map, sum_cast] at this
        exact this
      have a4 : (Ex.p2 .ne (.call "piece_size" (.r (.var 4) .nil)) (.p1 .sum (.comp false (.p1 .len (.var 8)) (.n 8) (.ex (.var 4)) .nil))).ev (lev 99) cs0 A6 = .ok (.p (.bool false), A6) := by
        have := V.p2 (p := .ne) (m1 := A6) a1 (V.p1 (p := .sum) a2 a3) rfl S.q_ne
        rw [this, decide_eq_false (fun h => h rfl)]
      have j3 : Jd (.tuple (q.map enc)) g := j
      have a5 := L_one (n := 92) (m := A6) j3 (ck_tup (ck_encP q)) rfl
      refine V.or_f a4 ?_
      have := V.p2 (p := .isnot) a5 (q := .o (.d (.bool true))) (m2 := A6) (b := .bl true) rfl rfl rfl
      rw [hg] at this
      exact this
  have s12 : (St.ite (.and (.not (.var 5)) (.and (.isi (.var 4) "tuple") (.call "_law_can_be_key" (.r (.var 4) (.r (.int 6) .nil))))) (.cons (.ite (.p2 .isnot (.call "is_heap" (.r (.dct1 (.var 4) (.int 1)) .nil)) (.bl false)) (.cons (.ret (.bl false)) .nil) .nil) .nil) .nil).run (lev 99) cs0 fuel A6 = .ok (.nx A6) := by
    cases hg : g with
    | true =>
      have nv : (Ex.not (.var 5)).ev (lev 99) cs0 A6 = .ok (.p (.bool false), A6) := V.not (t := true) (by rw [← hg]; exact v5)
      exact V.if_f (V.and_f nv) rfl
    | false =>
      have nv : (Ex.not (.var 5)).ev (lev 99) cs0 A6 = .ok (.p (.bool true), A6) := V.not (t := false) (by rw [← hg]; exact v5)
      have i1 : (Ex.isi (.var 4) "tuple").ev (lev 99) cs0 A6 = .ok (.p (.bool (P.isTy (P.tyOf x) "tuple")), A6) := V.isi (V.v_d rfl) S.q_isi
      cases hx : P.isTy (P.tyOf x) "tuple" with
      | false =>
        rw [hx] at i1
        exact V.if_f (V.and_t nv (V.and_f i1)) rfl
      | true =>
        rw [hx] at i1
        have i2 : (Ex.call "_law_can_be_key" (.r (.var 4) (.r (.int 6) .nil))).ev (lev 99) cs0 A6 = .ok (.p (.bool (ck 6 x)), A6) := S.call_2 (m1 := A6) (m2 := A6) (V.v_d rfl) rfl (L_ck 6 x 92 B.wd)
        cases hc : ck 6 x with
        | false =>
          rw [hc] at i2
          exact V.if_f (V.and_t nv (V.and_t i1 i2)) rfl
        | true =>
          rw [hc] at i2
          refine V.if_t (V.and_t nv (V.and_t i1 i2)) ?_
          have hxs : ∃ xs, x = .tuple xs := by
            rcases B with h | ⟨xs, e, _⟩
            · rw [h] at hx
              cases hx
            · exact ⟨xs, e⟩
          obtain ⟨xs, ex⟩ := hxs
          subst ex
          have a5 := L_one (n := 92) (m := A6) j (ck_tup hc) rfl
          have := V.p2 (p := .isnot) a5 (q := .o (.d (.bool false))) (m2 := A6) (b := .bl false) rfl rfl rfl
          rw [hg] at this
          exact V.seq_nx (V.if_f this rfl) rfl
  refine ⟨h5, some (.d (encP p)), some (.d x), some (.d (.bool g)), some (.d (.str (wH g t))), some (.d t), ?_, H5⟩
  refine V.seq_nx (V.set (m1 := A0 h2) (m2 := A1 h2) s1 rfl rfl) ?_
  refine V.seq_nx (V.set (m1 := A1 h3) (m2 := A2 h3) s2 rfl rfl) ?_
  refine V.seq_nx (V.set (m1 := A2 h3) (m2 := A3 h3) s3 rfl rfl) ?_
  refine V.seq_nx (V.if_f s4 rfl) ?_
  refine V.seq_nx (V.set (m1 := A3 h3) (m2 := A4 h3) s5 rfl rfl) ?_
  refine V.seq_nx (V.if_f s6 rfl) ?_
  refine V.seq_nx (V.set (m1 := A4 h4) (m2 := A5v h4) s7 rfl rfl) ?_
  refine V.seq_nx (V.set (m1 := A5v h5) (m2 := A5 h5 t) s8 rfl rfl) ?_
  refine V.seq_nx s9 ?_
  refine V.seq_nx (V.if_f s10 rfl) ?_
  refine V.seq_nx (V.if_f s11 rfl) ?_
  exact V.seq_nx s12 rfl
theorem law_true (ns : List Int) (hl : ns.length ≤ 63) : ∃ ks', lev 100 "law" [.s (ns.map .int)] = .ok (.o (.d (.bool true)), ks') := by
  obtain ⟨h0, eh, H0⟩ := L_hand (n := 98) hl
  obtain ⟨S0, hS⟩ : ∃ S0 : M, S0 = .s (ns.map .int) := ⟨_, rfl⟩
  rw [← hS] at eh ⊢
  obtain ⟨m', e, h', y2, y3, y4, y5, y6, y7, em, _⟩ := V.for_inv (t := .n 2) (body := tB.runs (lev 99) cs0 fuel) (fun ds m => ∃ h x2 x3 x4 x5 x6 x7, m = LW S0 h x2 x3 x4 x5 x6 x7 none ∧ HandOk (4000 * ds.length) h) (by
    rintro d ds _ ⟨h, x2, x3, x4, x5, x6, x7, rfl, H⟩
    obtain ⟨h', y3, y4, y5, y6, y7, e, H'⟩ := turn (S0 := S0) (h := h) (c := 4000 * ds.length) (by rw [List.length_cons] at H; exact H.mono (by omega)) (some (.d d)) x3 x4 x5 x6 x7
    exact ⟨LW S0 h (some (.d d)) x3 x4 x5 x6 x7 none, _, rfl, e, h', _, _, _, _, _, _, rfl, H'⟩) (rngList 0 8) (LW S0 h0 none none none none none none none) ⟨h0, none, none, none, none, none, none, rfl, H0.mono (by show 4000 * 8 ≤ 1000000000; omega)⟩
  subst em
  refine ⟨[S0], ?_⟩
  show fnF (lev 99) cs0 fuel f_law [S0] = _
  refine V.def_rt (m := LW S0 h' y2 y3 y4 y5 y6 y7 none) ?_ (by rw [hS]; rfl)
  refine V.seq_nx (V.set (r := .o h0) (m1 := [some S0, none, none, none, none, none, none, none, none]) (m2 := LW S0 h0 none none none none none none none) ?_ rfl rfl) ?_
  · rw [hS] at eh ⊢
    exact V.call (as := [.r (.b (.s (ns.map .int)))]) (m1 := [some (.s (ns.map .int)), none, none, none, none, none, none, none, none]) (V.as_r rfl V.as_nil rfl) rfl rfl eh rfl rfl
  refine V.seq_nx (V.forS (ds := rngList 0 8) (m1 := LW S0 h0 none none none none none none none) rfl e) ?_
  exact V.seq_rt rfl
end Oa

open PySem PySem.W PySem.Calls PyProof.Rows
theorem PySem.Challenge.cw_onearrow_k07_pieces_judged_holds : PySem.Challenge.rw_onearrow_k07_pieces_judged.Holds := by
  w_on; o_law
  refine HandSHeadRun.head_any (r := OpenLaw.row PySem.Challenge.rw_onearrow_k07_pieces_judged) (q := view (OpenLaw.row PySem.Challenge.rw_onearrow_k07_pieces_judged).prog [43]) (H := Oa.hk) (ob := Oa.hob) (M := 6000) (loose := "ArrowError" :: "NoPiece" :: "NoNumber" :: "is_integer" :: "is_between" :: "check_number" :: "is_depth_row" :: "ends_of" :: "is_in_form" :: "is_tree" :: "first_turn" :: "is_marked_row" :: "is_piece" :: "is_heap" :: "check_piece" :: "size_of" :: "piece_size" :: "period_of" :: "root_piece" :: "root_of" :: "unrolled" :: "_law_hand" :: "_law_draw" :: "_law_flag" :: "_law_is_integer" :: "_law_put" :: "_law_row" :: "_law_least" :: "_law_tree" :: "_law_piece" :: "_law_branches" :: "_law_is_tree" :: "_law_is_piece" :: "_law_deep" :: "_law_word" :: "_law_bent" :: "_law_can_be_key" :: []) (d := HandSHeadRun.topDef (OpenLaw.row PySem.Challenge.rw_onearrow_k07_pieces_judged).prog 43) (kwd := []) Oa.hob_eq
    (by kernel_rfl) (fun s => by kernel_rfl) Oa.hrun (by kernel_rfl) (by kernel_rfl) (by kernel_rfl) (by rfl) (by first | assumption | decide +kernel) (by decide +kernel) ⟨rfl, rfl, rfl, rfl, rfl, by decide +kernel⟩ ?hw ?hc
  case hw => w_witness2
  case hc =>
    refine Oa.walk_oa (l := PySem.Challenge.rw_onearrow_k07_pieces_judged) (n := 63) (k := 100) (x := "_law_script") rfl (by decide) (by kernel_rfl) ⟨rfl, by decide, by decide⟩ ?F
    intro w mg fa h Y G hmg0
    obtain ⟨K, KX, c⟩ := Y
    have hmg : mg ("law" : PySem.Str) = some (.ref fa) := by
      have e : (HandSHeadRun.topDef (OpenLaw.row PySem.Challenge.rw_onearrow_k07_pieces_judged).prog 43).name = ("law" : PySem.Str) := by kernel_rfl
      rw [← e]
      exact hmg0
    obtain ⟨fd, hF⟩ := c.def_ 34 (d := Oa.h_law) rfl
    have e := hmg.symm.trans (He.glo_ok KX G (c.fact 34 (f := .glo "law") rfl))
    cases e
    have b := L2.FunD.bindsA (ps := ["_law_script"]) hF fun _ _ _ _ _ _ us hl => match us, hl with | [_], _ => rfl
    exact ⟨K, fd, _, KX, fun s v => b s [v] rfl, Oa.law_spec Oa.law_true, fun base X2 G2 => Oa.fn_ok (Oa.mod_ok X2 G2 c 99) hF Oa.k_law⟩
