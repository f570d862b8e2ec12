import PyProof.Rows.All
import PyProof.Rows.IntBool
import PyProof.CallStr
import HandS.ForMost
import HandS.ExcCtx
import HandS.Deep
import HandS.TupAny
import HandS.TupLe
import HandS.TupMul
import HandS.Walk
import HandS.Zip
import HandS.Conv
import HandS.Style
import HandS.IsInst
import HandS.Flow
import HandS.Wide
import HandS.CallSlots
import HandS.Lambda
import HandS.Defaults
import KE.KeyNested
import PyProof.StrBlock2
import PyProof.DictRoadsH
import HandS.RaiseMore
import HandS.Text
import HandS.Iter
import KE.GoesEnum
import HandS.TryOnly
import HandS.Small
import HandS.CallLocal
import HandS.Comp
import HandS.ExcInit
import HandS.ExcField
import HandS.HotCalls
import PyProof.ZipIter
import PyProof.Rows.TupIter
import HandS.ExcIs
import HandS.SuiteRaise
import HandS.HeadHook4
import HandS.EndTab
import HandS.Head2
import HandS.Words
import PyProof.Rows.StrCase
import PyProof.Ascii
import PyProof.FitsInt
import PyProof.Rows.ReprOcc
import PySem.Challenge.RW_allcards_k10_errors_of_relations
set_option Elab.async false
set_option linter.all false
set_option maxRecDepth 100000
set_option maxHeartbeats 4000000
/-! Md: data, what stands for data on the heap, what stays. -/
namespace Mi
open PySem PySem.Spec PyProof.Rows L2
/-- data: immutable things by their contents (a list here is one that nobody changes any more), obj n: the n-th changeable thing -/
inductive D where
  | non | bl (b : Bool) | int (i : Int) | str (x : Str) | ty (n : String) | glo (x : Str)
  | tup (xs : List D) | lst (xs : List D) | obj (n : Nat) | scr (ns : List Int)
/-- what a changeable thing holds -/
inductive Mo where
  | lst (xs : List D)
  | dct (kvs : List (Str × D))
  | ins (c : Str) (fs : List (Str × D))
  | dcn (kvs : List (NestedKey × D))
/-- the world, and the tables -/
structure TW where
  w : World
  l : List (Addr × Str)
def KWT (K : PySem.W.Frag) (a : Addr) (xs : List V) : Prop :=
  ∃ (o : Obj) (its : Array Value) (n : Nat), K.lookup a = some o ∧ o.cls = .type "tuple" ∧ o.data = .seq its n ∧ its.size ≤ sizeLine ∧ Vals xs its.toList
def KWL (K : PySem.W.Frag) (a : Addr) (xs : List V) : Prop :=
  ∃ (o : Obj) (its : Array Value) (n : Nat), K.lookup a = some o ∧ o.cls = .type "list" ∧ o.dict = none ∧ o.data = .seq its n ∧ its.size ≤ sizeLine ∧ Vals xs its.toList
def TupAt (K : PySem.W.Frag) (H : Hp) (a : Addr) (xs : List V) : Prop := H a = some (.tup xs) ∨ KWT K a xs
theorem TupAt.sq {K : PySem.W.Frag} {H : Hp} {a : Addr} {xs : List V} (h : TupAt K H a xs) : SqT K H a xs := by
  rcases h with h | h
  · exact .inl (.inl h)
  · exact .inr h
def ScrAt (K : PySem.W.Frag) (ι Z : List Addr) (H : Hp) (a : Addr) (xs : List V) : Prop := (Rd H a (.lst xs) ∧ a ∉ ι ∧ a ∉ Z) ∨ KWL K a xs
theorem ScrAt.sq {K : PySem.W.Frag} {ι Z : List Addr} {H : Hp} {a : Addr} {xs : List V} (h : ScrAt K ι Z H a xs) : SqL K H a xs := by
  rcases h with h | h
  · exact .inl h.1
  · exact .inr h
mutual
def Rp (K : PySem.W.Frag) (mg : Str → Option Value) (ι Z : List Addr) (H : Hp) : D → V → Prop
  | .non, v => v = .non
  | .bl b, v => v = .bl b
  | .int i, v => v = .int i
  | .str x, v => v = .str x
  | .ty n, v => v = .ty n
  | .glo x, v => ∃ f, mg x = some (.ref f) ∧ v = .ref f
  | .tup ds, v => ∃ a vs, v = .ref a ∧ TupAt K H a vs ∧ Rps K mg ι Z H ds vs
  | .lst ds, v => ∃ a vs, v = .ref a ∧ (H a = some (.lst vs) ∧ a ∉ ι ∧ a ∉ Z) ∧ Rps K mg ι Z H ds vs
  | .obj n, v => ∃ a, v = .ref a ∧ ι[n]? = some a
  | .scr ns, v => ∃ a, v = .ref a ∧ ScrAt K ι Z H a (ns.map V.int)
def Rps (K : PySem.W.Frag) (mg : Str → Option Value) (ι Z : List Addr) (H : Hp) : List D → List V → Prop
  | [], vs => vs = []
  | d :: ds, vs => ∃ v vs', vs = v :: vs' ∧ Rp K mg ι Z H d v ∧ Rps K mg ι Z H ds vs'
end
/-! ### keys of any depth -/
mutual
def KeyAt (K : PySem.W.Frag) (H : Hp) : NestedKey → V → Prop
  | .none, v => v = .non
  | .num i, v => v = .int i ∨ ∃ b, v = .bl b ∧ i = if b = true then 1 else 0
  | .text x, v => v = .str x
  | .tup ks, v => ∃ a vs, v = .ref a ∧ TupAt K H a vs ∧ KeysAt K H ks vs
def KeysAt (K : PySem.W.Frag) (H : Hp) : List NestedKey → List V → Prop
  | [], vs => vs = []
  | k :: ks, vs => ∃ v vs', vs = v :: vs' ∧ KeyAt K H k v ∧ KeysAt K H ks vs'
end
mutual
/-- data as a key -/
def nkD : D → Option NestedKey
  | .non => some .none
  | .bl b => some (.num (if b = true then 1 else 0))
  | .int i => some (.num i)
  | .str x => some (.text x)
  | .tup ds => (nkDs ds).map .tup
  | _ => none
def nkDs : List D → Option (List NestedKey)
  | [] => some []
  | d :: ds => (nkD d).bind fun k => (nkDs ds).map fun ks => k :: ks
end
mutual
theorem KeyAt.of {K : PySem.W.Frag} {mg : Str → Option Value} {ι Z : List Addr} {H : Hp} : ∀ {d : D} {k : NestedKey} {v : V}, nkD d = some k → Rp K mg ι Z H d v → KeyAt K H k v
  | .non, k, v, h, r => by cases h; exact r
  | .bl b, k, v, h, r => by cases h; exact .inr ⟨b, r, rfl⟩
  | .int i, k, v, h, r => by cases h; exact .inl r
  | .str x, k, v, h, r => by cases h; exact r
  | .tup ds, k, v, h, r => by
    simp only [nkD, Option.map_eq_some_iff] at h
    obtain ⟨ks, h1, rfl⟩ := h
    obtain ⟨a, vs, rfl, h2, h3⟩ := r
    exact ⟨a, vs, rfl, h2, KeysAt.of h1 h3⟩
  | .lst _, _, _, h, _ => by simp [nkD] at h
  | .obj _, _, _, h, _ => by simp [nkD] at h
  | .scr _, _, _, h, _ => by simp [nkD] at h
  | .ty _, _, _, h, _ => by simp [nkD] at h
  | .glo _, _, _, h, _ => by simp [nkD] at h
theorem KeysAt.of {K : PySem.W.Frag} {mg : Str → Option Value} {ι Z : List Addr} {H : Hp} : ∀ {ds : List D} {ks : List NestedKey} {vs : List V}, nkDs ds = some ks → Rps K mg ι Z H ds vs → KeysAt K H ks vs
  | [], ks, vs, h, r => by cases h; exact r
  | d :: ds, ks, vs, h, r => by
    simp only [nkDs, Option.bind_eq_some_iff, Option.map_eq_some_iff] at h
    obtain ⟨k, h1, ks', h2, rfl⟩ := h
    obtain ⟨v, vs', rfl, h3, h4⟩ := r
    exact ⟨v, vs', rfl, KeyAt.of h1 h3, KeysAt.of h2 h4⟩
end
mutual
theorem KeyAt.mono {K : PySem.W.Frag} {H H' : Hp} (e : ∀ a xs, H a = some (.tup xs) → H' a = some (.tup xs)) : ∀ (k : NestedKey) (v : V), KeyAt K H k v → KeyAt K H' k v
  | .none, _, h => h
  | .num _, _, h => h
  | .text _, _, h => h
  | .tup ks, v, h => by
    obtain ⟨a, vs, rfl, h1, h2⟩ := h
    refine ⟨a, vs, rfl, ?_, KeysAt.mono e ks vs h2⟩
    rcases h1 with h1 | h1
    · exact .inl (e a vs h1)
    · exact .inr h1
theorem KeysAt.mono {K : PySem.W.Frag} {H H' : Hp} (e : ∀ a xs, H a = some (.tup xs) → H' a = some (.tup xs)) : ∀ (ks : List NestedKey) (vs : List V), KeysAt K H ks vs → KeysAt K H' ks vs
  | [], _, h => h
  | k :: ks, vs, h => by
    obtain ⟨v, vs', rfl, h1, h2⟩ := h
    exact ⟨v, vs', rfl, KeyAt.mono e k v h1, KeysAt.mono e ks vs' h2⟩
end
/-- an entry of a dict: key, address of the key, value -/
def NdE (w : World) (x : NestedKey × Addr × V) (e : DictEntry) : Prop := e.hash = x.1.hash w ∧ e.key = .ref x.2.1 ∧ RelV x.2.2 e.val
/-- a dict whose keys are tuples of any depth -/
def NDo (w : World) (a : Addr) (xs : List (NestedKey × Addr × V)) : HO := .ext fun h => ∃ o es ep, h.get? a = some o ∧ o.ExactDict ∧ o.data = .dict es ep ∧ Paired (NdE w) xs es.toList
/-- the entries of such a dict, and what stands for their keys -/
def NdK (K : PySem.W.Frag) (H : Hp) (p : NestedKey × D) (x : NestedKey × Addr × V) : Prop := x.1 = p.1 ∧ p.1.depth ≤ 8 ∧ KeyAt K H p.1 (.ref x.2.1)
theorem NdK.mono {K : PySem.W.Frag} {H H' : Hp} (e : ∀ a xs, H a = some (.tup xs) → H' a = some (.tup xs)) {kvs : List (NestedKey × D)} {xs : List (NestedKey × Addr × V)} (h : Paired (NdK K H) kvs xs) : Paired (NdK K H') kvs xs := by
  induction h with
  | nil => exact .nil
  | cons h _ ih => exact .cons ⟨h.1, h.2.1, KeyAt.mono e _ _ h.2.2⟩ ih
/-- what stays: all but the things at ι and at Zf; tables may grow -/
structure Ext (ι Zf : List Addr) (H : Hp) (ι' : List Addr) (H' : Hp) : Prop where
  ids : ∃ l, ι' = ι ++ l ∧ ∀ p ∈ l, H p = none
  keep : ∀ a o, H a = some o → a ∉ ι → a ∉ Zf → (∀ ps, o ≠ .tbl ps) → H' a = some o
  there : ∀ a o, H a = some o → ∃ o', H' a = some o'
  tups : ∀ a xs, H a = some (.tup xs) → H' a = some (.tup xs)
theorem Ext.refl {ι Zf : List Addr} {H : Hp} : Ext ι Zf H ι H :=
  ⟨⟨[], by simp, by simp⟩, fun _ _ h _ _ _ => h, fun _ o h => ⟨o, h⟩, fun _ _ h => h⟩
theorem Ext.free {ι Zf : List Addr} {H : Hp} {ι' : List Addr} {H' : Hp} (e : Ext ι Zf H ι' H') {a : Addr} (h : H' a = none) : H a = none := by
  cases q : H a with
  | none => rfl
  | some o => obtain ⟨o', z⟩ := e.there a o q; rw [h] at z; cases z
theorem Ext.mono {ι Zf Zg : List Addr} {H : Hp} {ι' : List Addr} {H' : Hp} (e : Ext ι Zf H ι' H') (h : ∀ z ∈ Zf, z ∈ Zg) : Ext ι Zg H ι' H' :=
  ⟨e.ids, fun a o q h1 h2 => e.keep a o q h1 fun z => h2 (h a z), e.there, e.tups⟩
/-- the changed places of the second step: at Zf, or new -/
theorem Ext.trans {ι Zf Zg : List Addr} {H H1 H2 : Hp} {ι1 ι2 : List Addr} (e : Ext ι Zf H ι1 H1) (f : Ext ι1 Zg H1 ι2 H2) (hz : ∀ z ∈ Zg, z ∈ Zf ∨ H z = none) : Ext ι Zf H ι2 H2 := by
  obtain ⟨l1, rfl, h1⟩ := e.ids
  obtain ⟨l2, rfl, h2⟩ := f.ids
  refine ⟨⟨l1 ++ l2, by rw [List.append_assoc], fun p hp => ?_⟩, fun a o q n1 n2 nt => ?_, fun a o q => ?_, fun a xs q => f.tups a xs (e.tups a xs q)⟩
  · rcases List.mem_append.mp hp with z | z
    · exact h1 p z
    · exact e.free (h2 p z)
  · have k1 := e.keep a o q n1 n2 nt
    refine f.keep a o k1 (fun z => ?_) (fun z => ?_) nt
    · rcases List.mem_append.mp z with z | z
      · exact n1 z
      · rw [h1 a z] at q; cases q
    · rcases hz a z with z | z
      · exact n2 z
      · rw [z] at q; cases q
  · obtain ⟨o1, q1⟩ := e.there a o q
    exact f.there a o1 q1
theorem Ext.trans0 {ι Zf : List Addr} {H H1 H2 : Hp} {ι1 ι2 : List Addr} (e : Ext ι Zf H ι1 H1) (f : Ext ι1 [] H1 ι2 H2) : Ext ι Zf H ι2 H2 :=
  e.trans f (by simp)
section
variable {w : World} {K : PySem.W.Frag} {mg : Str → Option Value} {ι Z Zf ι' Z' : List Addr} {H H' : Hp}
theorem TupAt.ext {a : Addr} {xs : List V} (h : TupAt K H a xs) (e : Ext ι Zf H ι' H') : TupAt K H' a xs := by
  rcases h with h | h
  · exact .inl (e.tups a xs h)
  · exact .inr h
theorem Ext.notin (e : Ext ι Zf H ι' H') {a : Addr} {o : HO} (q : H a = some o) (n : a ∉ ι) : a ∉ ι' := by
  obtain ⟨l, rfl, h⟩ := e.ids
  intro z
  rcases List.mem_append.mp z with z | z
  · exact n z
  · rw [h a z] at q; cases q
mutual
theorem Rp.ext (e : Ext ι Zf H ι' H') (hf : ∀ z ∈ Zf, z ∈ Z) (hz : ∀ z ∈ Z', z ∈ Z ∨ H z = none) : ∀ (d : D) (v : V), Rp K mg ι Z H d v → Rp K mg ι' Z' H' d v
  | .non, _, h => h
  | .bl _, _, h => h
  | .int _, _, h => h
  | .str _, _, h => h
  | .ty _, _, h => h
  | .glo _, _, h => h
  | .tup ds, v, h => by
    obtain ⟨a, vs, rfl, h1, h2⟩ := h
    exact ⟨a, vs, rfl, h1.ext e, Rps.ext e hf hz ds vs h2⟩
  | .lst ds, v, h => by
    obtain ⟨a, vs, rfl, ⟨h1, h2, h3⟩, h4⟩ := h
    refine ⟨a, vs, rfl, ⟨e.keep a _ h1 h2 (fun z => h3 (hf a z)) (fun _ z => nomatch z), e.notin h1 h2, fun z => ?_⟩, Rps.ext e hf hz ds vs h4⟩
    rcases hz a z with z | z
    · exact h3 z
    · rw [z] at h1; cases h1
  | .obj n, v, h => by
    obtain ⟨a, rfl, h1⟩ := h
    obtain ⟨l, rfl, _⟩ := e.ids
    refine ⟨a, rfl, ?_⟩
    rw [List.getElem?_append_left]
    · exact h1
    · exact (List.getElem?_eq_some_iff.mp h1).1
  | .scr ns, v, h => by
    obtain ⟨a, rfl, h1⟩ := h
    refine ⟨a, rfl, ?_⟩
    rcases h1 with ⟨h1, h2, h3⟩ | h1
    · obtain ⟨o, q, hr⟩ : ∃ o, H a = some o ∧ (H' a = some o → Rd H' a (.lst (ns.map V.int))) := by
        rcases h1 with h1 | ⟨o, h1⟩
        · exact ⟨_, h1, fun z => .inl z⟩
        · exact ⟨_, h1, fun z => .inr ⟨o, z⟩⟩
      refine .inl ⟨hr (e.keep a o q h2 (fun z => h3 (hf a z)) fun ps z => ?_), e.notin q h2, fun z => ?_⟩
      · subst z
        rcases h1 with h1 | ⟨_, h1⟩
        · rw [q] at h1; cases h1
        · rw [q] at h1; cases h1
      · rcases hz a z with z | z
        · exact h3 z
        · rw [z] at q; cases q
    · exact .inr h1
theorem Rps.ext (e : Ext ι Zf H ι' H') (hf : ∀ z ∈ Zf, z ∈ Z) (hz : ∀ z ∈ Z', z ∈ Z ∨ H z = none) : ∀ (ds : List D) (vs : List V), Rps K mg ι Z H ds vs → Rps K mg ι' Z' H' ds vs
  | [], _, h => h
  | d :: ds, vs, h => by
    obtain ⟨v, vs', rfl, h1, h2⟩ := h
    exact ⟨v, vs', rfl, Rp.ext e hf hz d v h1, Rps.ext e hf hz ds vs' h2⟩
end
theorem Rp.ext0 (e : Ext ι [] H ι' H') {d : D} {v : V} (h : Rp K mg ι Z H d v) : Rp K mg ι' Z H' d v := Rp.ext e (by simp) (fun _ z => .inl z) d v h
theorem Rps.ext0 (e : Ext ι [] H ι' H') {d : List D} {v : List V} (h : Rps K mg ι Z H d v) : Rps K mg ι' Z H' d v := Rps.ext e (by simp) (fun _ z => .inl z) d v h
theorem Rp.weak (hz : ∀ z ∈ Z', z ∈ Z) {d : D} {v : V} (h : Rp K mg ι Z H d v) : Rp K mg ι Z' H d v := Rp.ext (Zf := []) Ext.refl (by simp) (fun z q => .inl (hz z q)) d v h
theorem Rps.weak (hz : ∀ z ∈ Z', z ∈ Z) {d : List D} {v : List V} (h : Rps K mg ι Z H d v) : Rps K mg ι Z' H d v := Rps.ext (Zf := []) Ext.refl (by simp) (fun z q => .inl (hz z q)) d v h
theorem Rps.length : ∀ {ds : List D} {vs : List V}, Rps K mg ι Z H ds vs → ds.length = vs.length
  | [], _, h => by rw [h]; rfl
  | _ :: ds, _, h => by
    obtain ⟨v, vs', rfl, _, h2⟩ := h
    simp [Rps.length h2]
theorem Rps.get : ∀ {ds : List D} {vs : List V} {i : Nat} {d : D}, Rps K mg ι Z H ds vs → ds[i]? = some d → ∃ v, vs[i]? = some v ∧ Rp K mg ι Z H d v
  | [], _, _, _, _, e => by simp at e
  | _ :: ds, _, i, d, h, e => by
    obtain ⟨v, vs', rfl, h1, h2⟩ := h
    cases i with
    | zero => simp at e; subst e; exact ⟨v, by simp, h1⟩
    | succ i =>
      obtain ⟨w, e1, e2⟩ := Rps.get (i := i) h2 (by simpa using e)
      exact ⟨w, by simpa using e1, e2⟩
theorem Rps.append : ∀ {ds es : List D} {vs ws : List V}, Rps K mg ι Z H ds vs → Rps K mg ι Z H es ws → Rps K mg ι Z H (ds ++ es) (vs ++ ws)
  | [], _, _, _, h, g => by rw [h]; exact g
  | _ :: ds, _, _, _, h, g => by
    obtain ⟨v, vs', rfl, h1, h2⟩ := h
    exact ⟨v, vs' ++ _, rfl, h1, Rps.append h2 g⟩
theorem Rps.take : ∀ {ds : List D} {vs : List V} (n : Nat), Rps K mg ι Z H ds vs → Rps K mg ι Z H (ds.take n) (vs.take n)
  | [], _, _, h => by rw [h]; simp [Rps]
  | _ :: ds, _, 0, h => by simp [Rps]
  | _ :: ds, _, n + 1, h => by
    obtain ⟨v, vs', rfl, h1, h2⟩ := h
    exact ⟨v, vs'.take n, rfl, h1, Rps.take n h2⟩
theorem Rps.drop : ∀ {ds : List D} {vs : List V} (n : Nat), Rps K mg ι Z H ds vs → Rps K mg ι Z H (ds.drop n) (vs.drop n)
  | [], _, _, h => by rw [h]; simp [Rps]
  | _ :: ds, _, 0, h => h
  | _ :: ds, _, n + 1, h => by
    obtain ⟨v, vs', rfl, h1, h2⟩ := h
    exact Rps.drop n h2
theorem Rps.nil_iff {ds : List D} {vs : List V} (h : Rps K mg ι Z H ds vs) : vs = [] ↔ ds = [] := by
  have e := h.length
  constructor
  · intro z; subst z; exact List.length_eq_zero_iff.mp e
  · intro z; subst z; exact List.length_eq_zero_iff.mp e.symm
theorem Rps.one {d : D} {vs : List V} (h : Rps K mg ι Z H [d] vs) : ∃ v, vs = [v] ∧ Rp K mg ι Z H d v := by
  obtain ⟨v, vs', rfl, h1, h2⟩ := h
  rw [show vs' = [] from h2]
  exact ⟨v, rfl, h1⟩
theorem Rps.set : ∀ {ds : List D} {vs : List V} {d : D} {v : V} (i : Nat), Rps K mg ι Z H ds vs → Rp K mg ι Z H d v → Rps K mg ι Z H (ds.set i d) (vs.set i v)
  | [], _, _, _, _, h, _ => by rw [h]; simp [Rps]
  | _ :: ds, _, _, _, 0, h, g => by
    obtain ⟨v, vs', rfl, h1, h2⟩ := h
    exact ⟨_, vs', rfl, g, h2⟩
  | _ :: ds, _, _, _, i + 1, h, g => by
    obtain ⟨v, vs', rfl, h1, h2⟩ := h
    exact ⟨v, vs'.set i _, rfl, h1, Rps.set i h2 g⟩
theorem Rps.ints : ∀ (ns : List Int), Rps K mg ι Z H (ns.map D.int) (ns.map V.int)
  | [] => rfl
  | n :: ns => ⟨_, _, rfl, rfl, Rps.ints ns⟩
theorem Rps.ints_inv : ∀ {ns : List Int} {vs : List V}, Rps K mg ι Z H (ns.map D.int) vs → vs = ns.map V.int
  | [], _, h => h
  | n :: ns, _, h => by
    obtain ⟨v, vs', rfl, h1, h2⟩ := h
    rw [Rps.ints_inv h2, show v = V.int n from h1]; rfl
/-- what a changeable thing is on the heap -/
def RpM (w : World) (K : PySem.W.Frag) (mg : Str → Option Value) (ι Z : List Addr) (H : Hp) (a : Addr) : Mo → Prop
  | .lst ds => ∃ vs, H a = some (.lst vs) ∧ Rps K mg ι Z H ds vs
  | .dct kvs => ∃ vs, H a = some (.dK ((kvs.map fun p => (Sum.inr p.1 : Key)).zip vs)) ∧ Rps K mg ι Z H (kvs.map (·.2)) vs
  | .ins c fs => ∃ C dx vs, mg c = some (.ref C) ∧ H a = some (.ins C dx ((fs.map (·.1)).zip vs)) ∧ Rps K mg ι Z H (fs.map (·.2)) vs
  | .dcn kvs => ∃ xs, H a = some (NDo w a xs) ∧ (a == sysModules) = false ∧ (kvs.map (·.1)).Nodup ∧ Paired (NdK K H) kvs xs ∧ Rps K mg ι Z H (kvs.map (·.2)) (xs.map (·.2.2))
theorem RpM.at {a : Addr} {m : Mo} (h : RpM w K mg ι Z H a m) : ∃ o, H a = some o ∧ (∀ xs, o ≠ .tup xs) ∧ (∀ ps, o ≠ .tbl ps) ∧ (∀ x, o ≠ .own x) := by
  cases m with
  | lst ds => obtain ⟨vs, h1, _⟩ := h; exact ⟨_, h1, (fun _ z => by cases z), (fun _ z => by cases z), (fun _ z => by cases z)⟩
  | dct kvs => obtain ⟨vs, h1, _⟩ := h; exact ⟨_, h1, (fun _ z => by cases z), (fun _ z => by cases z), (fun _ z => by cases z)⟩
  | ins c fs => obtain ⟨C, dx, vs, _, h1, _⟩ := h; exact ⟨_, h1, (fun _ z => by cases z), (fun _ z => by cases z), (fun _ z => by cases z)⟩
  | dcn kvs => obtain ⟨xs, h1, _⟩ := h; exact ⟨_, h1, (fun _ z => by cases z), (fun _ z => by cases z), (fun _ z => by cases z)⟩
/-- the thing itself stood, the rest as e tells -/
theorem RpM.ext (e : Ext ι Zf H ι' H') (hf : ∀ z ∈ Zf, z ∈ Z) (hz : ∀ z ∈ Z', z ∈ Z ∨ H z = none) {a : Addr} {m : Mo} (ha : H' a = H a) (h : RpM w K mg ι Z H a m) : RpM w K mg ι' Z' H' a m := by
  cases m with
  | lst ds => obtain ⟨vs, h1, h2⟩ := h; exact ⟨vs, ha.trans h1, Rps.ext e hf hz _ _ h2⟩
  | dct kvs => obtain ⟨vs, h1, h2⟩ := h; exact ⟨vs, ha.trans h1, Rps.ext e hf hz _ _ h2⟩
  | ins c fs => obtain ⟨C, dx, vs, h0, h1, h2⟩ := h; exact ⟨C, dx, vs, h0, ha.trans h1, Rps.ext e hf hz _ _ h2⟩
  | dcn kvs => obtain ⟨xs, h1, h2, h3, h4, h5⟩ := h; exact ⟨xs, ha.trans h1, h2, h3, NdK.mono e.tups h4, Rps.ext e hf hz _ _ h5⟩
end
/-- the changeable things, the lists that are held by one name alone (Z), the tables -/
structure RG (K : PySem.W.Frag) (mg : Str → Option Value) (T : TW) (ι Z : List Addr) (H : Hp) (μ : List Mo) : Prop where
  nd : ι.Nodup
  len : ι.length = μ.length
  mem : ∀ (n : Nat) (m : Mo), μ[n]? = some m → ∃ a, ι[n]? = some a ∧ RpM T.w K mg ι Z H a m
  zl : ∀ z ∈ Z, (∃ vs, H z = some (.lst vs)) ∧ z ∉ ι
  tabs : LamX.Tabs T.l H
end Mi
set_option Elab.async false
set_option linter.all false
set_option maxRecDepth 100000
set_option maxHeartbeats 4000000
/-! Mc: a small language over data: its terms, what they come to, and how they are read off the text. -/
namespace Mi
open PySem L2
/-! ### operators by values -/
mutual
def py0 : D → Option PyData
  | .non => some .none
  | .bl b => some (.bool b)
  | .int i => some (.int i)
  | .str x => some (.str x)
  | .tup xs => (py0s xs).map .tuple
  | .lst xs => (py0s xs).map .list
  | _ => none
def py0s : List D → Option (List PyData)
  | [] => some []
  | x :: xs => (py0 x).bind fun a => (py0s xs).map fun as => a :: as
end
/-- a changeable list, read -/
def see (μ : List Mo) : D → D
  | .obj n => (match μ[n]? with
    | some (.lst xs) => .lst xs
    | _ => .obj n)
  | d => d
def eqD (μ : List Mo) (a b : D) : Option Bool := (py0 (see μ a)).bind fun p => (py0 (see μ b)).bind fun q =>
  if (SeqAt.shaped p && SeqAt.shaped q) = true then some (PyData.eqv p q) else none
/-- a tuple as a key of a dict -/
def nkT : D → Option NestedKey
  | .tup ds => (nkD (.tup ds)).bind fun k => if k.depth ≤ 8 then some k else none
  | _ => none
def lookN (kvs : List (NestedKey × D)) (k : NestedKey) : Option D := (kvs.find? fun p => decide (p.1 = k)).map (·.2)
def putN (kvs : List (NestedKey × D)) (k : NestedKey) (v : D) : List (NestedKey × D) := if (lookN kvs k).isSome = true then kvs.map (fun p => if p.1 = k then (p.1, v) else p) else kvs ++ [(k, v)]
def inD (μ : List Mo) (a b : D) : Option Bool := match see μ b with
  | .obj n => (match μ[n]? with
    | some (.dcn kvs) => (nkT a).map fun k => (lookN kvs k).isSome
    | _ => none)
  | .str z => (match a with
    | .str x => some (!(Builtin.Str.occurrences z x 0 z.length 1).isEmpty)
    | _ => none)
  | .tup ds => (py0 (see μ a)).bind fun p => (py0s ds).bind fun qs => if (SeqAt.shaped p && SeqAt.shaped (.tuple qs)) = true then some (qs.any fun z => PyData.eqv z p) else none
  | .lst ds => (py0 (see μ a)).bind fun p => (py0s ds).bind fun qs => if (SeqAt.shaped p && SeqAt.shaped (.list qs)) = true then some (qs.any fun z => PyData.eqv z p) else none
  | _ => none
def intsOf : List D → Option (List Int)
  | [] => some []
  | .int i :: ds => (intsOf ds).map fun ns => i :: ns
  | _ :: _ => none
inductive Cm | lt | le | gt | ge
def Cm.int : Cm → Int → Int → Bool
  | .lt, i, j => decide (i < j)
  | .le, i, j => decide (i ≤ j)
  | .gt, i, j => decide (j < i)
  | .ge, i, j => decide (j ≤ i)
/-- tuples of ints, from the first pair that differs on -/
def lexC (c : Cm) : List Int → List Int → Bool
  | [], [] => c.int 0 0
  | [], _ :: _ => c.int 0 1
  | _ :: _, [] => c.int 1 0
  | x :: xs, y :: ys => if x = y then lexC c xs ys else c.int x y
def cmD (c : Cm) (a b : D) : Option Bool := match a, b with
  | .int i, .int j => some (c.int i j)
  | .tup xs, .tup ys => (intsOf xs).bind fun ns => (intsOf ys).map fun ms => lexC c ns ms
  | _, _ => none
def small64 (i : Int) : Bool := decide (-(2 ^ 64) < i ∧ i < 2 ^ 64)
def mulOk (i j : Int) : Bool := small64 i || small64 j || decide (i.natAbs.log2 + j.natAbs.log2 < 1000000)
def addD (μ : List Mo) (a b : D) : Option D := match see μ a, see μ b with
  | .int i, .int j => some (.int (i + j))
  | .bl i, .int j => some (.int ((if i = true then (1 : Int) else 0) + j))
  | .str x, .str y => if x.length + y.length ≤ sizeLine then some (.str (x ++ y)) else none
  | .tup xs, .tup ys => if xs.length + ys.length ≤ sizeLine then some (.tup (xs ++ ys)) else none
  | .lst xs, .lst ys => if xs.length + ys.length ≤ sizeLine then some (.lst (xs ++ ys)) else none
  | _, _ => none
def mulD (a b : D) : Option D := match a, b with
  | .int i, .int j => if mulOk i j = true then some (.int (i * j)) else none
  | .int i, .bl j => some (.int (i * if j = true then (1 : Int) else 0))
  | .str x, .int k => if (decide (2 ≤ k) && decide (k ≤ 1000) && decide (x.length ≤ 1000)) = true then some (.str (Txt.mul x k)) else none
  | .tup xs, .int k => if (decide (-(2 ^ 63) ≤ k) && decide (k ≤ 1000) && decide (xs.length ≤ 1000)) = true then some (.tup (List.replicate k.toNat xs).flatten) else none
  | .lst xs, .int k => if (decide (-(2 ^ 63) ≤ k) && decide (k < 2 ^ 63) && decide (xs.length * k.toNat ≤ sizeLine)) = true then some (.lst (List.replicate k.toNat xs).flatten) else none
  | _, _ => none
/-- what may be divided by what -/
def fdOk (i j : Int) : Bool := decide (j ≠ 0) && !Builtin.divisionGoesByPylong i j
inductive Op | add | sub | mul | fdiv | mod | pow | eq | ne | cm (c : Cm) | in_ | nin | is_ | isn
def isD (a b : D) : Option Bool := match a, b with
  | .bl x, .bl y => some (decide (x = y))
  | .non, .non => some true
  | .bl _, .non => some false
  | .int _, .non => some false
  | .str _, .non => some false
  | .tup _, .non => some false
  | .lst _, .non => some false
  | .obj _, .non => some false
  | _, _ => none
def Op.do (o : Op) (μ : List Mo) (a b : D) : Option D := match o with
  | .add => addD μ a b
  | .sub => (match a, b with
    | .int i, .int j => some (.int (i - j))
    | .bl i, .int j => some (.int ((if i = true then (1 : Int) else 0) - j))
    | _, _ => none)
  | .mul => mulD a b
  | .fdiv => (match a, b with
    | .int i, .int j => if (decide (0 < j) && decide (j.natAbs.log2 < 9000)) = true then some (.int (i / j)) else if fdOk i j = true then some (.int (i.fdiv j)) else none
    | _, _ => none)
  | .mod => (match a, b with
    | .int i, .int j => if 0 < j then some (.int (i % j)) else none
    | _, _ => none)
  | .pow => (match a, b with
    | .int i, .int j => if (decide (0 ≤ j) && decide (j ≤ 1000000) && decide (i.natAbs < 2 ^ 64)) = true then some (.int (i ^ j.toNat)) else none
    | _, _ => none)
  | .eq => (eqD μ a b).map .bl
  | .ne => (eqD μ a b).map fun r => .bl (!r)
  | .cm c => (cmD c a b).map .bl
  | .in_ => (inD μ a b).map .bl
  | .nin => (inD μ a b).map fun r => .bl (!r)
  | .is_ => (isD a b).map .bl
  | .isn => (isD a b).map fun r => .bl (!r)
/-! ### built-ins by values -/
def lenD (μ : List Mo) : D → Option Nat
  | .tup xs => some xs.length
  | .lst xs => some xs.length
  | .scr ns => some ns.length
  | .str x => if x.length ≤ sizeLine then some x.length else none
  | .obj n => (match μ[n]? with
    | some (.lst xs) => some xs.length
    | some (.dct kvs) => some kvs.length
    | _ => none)
  | _ => none
/-- the name of a value's class -/
def tyD (μ : List Mo) : D → Option String
  | .non => some "NoneType"
  | .bl _ => some "bool"
  | .int _ => some "int"
  | .str _ => some "str"
  | .tup _ => some "tuple"
  | .lst _ => some "list"
  | .obj n => (match μ[n]? with
    | some (.lst _) => some "list"
    | some (.dct _) => some "dict"
    | _ => none)
  | _ => none
def isiD (μ : List Mo) (a b : D) : Option Bool := match b with
  | .ty n => (tyD μ a).bind fun t => L2.kitB t n
  | _ => none
inductive Bi | len | abs | int | str | min | max | sum | list | tuple | isi | any | bool | upper | split | join
def strsOf : List D → Option (List Str)
  | [] => some []
  | .str x :: ds => (strsOf ds).map fun xs => x :: xs
  | _ :: _ => none
def Bi.do (f : Bi) (μ : List Mo) : List D → Option D
  | [a] => (match f with
    | .len => (lenD μ a).map fun n => .int n
    | .abs => (match a with
      | .int i => some (.int (if i < 0 then -i else i))
      | _ => none)
    | .int => (match a with
      | .int i => some (.int i)
      | .bl b => some (.int (if b = true then 1 else 0))
      | .str x => if x.length ≤ 640 then (PySem.intText? x).map .int else none
      | _ => none)
    | .str => (match a with
      | .int i => if i.natAbs.log2 < 1920 then some (.str (toString i)) else none
      | .str x => some (.str x)
      | .bl b => some (.str (if b = true then "True" else "False"))
      | _ => none)
    | .upper => (match a with
      | .str x => if x.length ≤ 5592405 then some (.str (Txt.upper x)) else none
      | _ => none)
    | .sum => (match see μ a with
      | .lst xs => (intsOf xs).map fun ns => .int ns.sum
      | _ => none)
    | .list => (match see μ a with
      | .lst xs => some (.lst xs)
      | .tup xs => some (.lst xs)
      | .str x => if x.length ≤ 1000 then some (.lst (x.cps.toList.map fun c => .str ⟨#[c]⟩)) else none
      | _ => none)
    | .tuple => (match see μ a with
      | .lst xs => some (.tup xs)
      | .tup xs => some (.tup xs)
      | _ => none)
    | .bool => (match a with
      | .bl b => some (.bl b)
      | _ => none)
    | _ => none)
  | [a, b] => (match f with
    | .min => (match a, b with
      | .int i, .int j => some (.int (if j < i then j else i))
      | _, _ => none)
    | .max => (match a, b with
      | .int i, .int j => some (.int (if j > i then j else i))
      | _, _ => none)
    | .isi => (isiD μ a b).map .bl
    | .split => (match a, b with
      | .str x, .str y => if (!(y.length == 0) && decide (x.length + 2 ≤ sizeLine)) = true then some (.lst ((Txt.split x y).map .str)) else none
      | _, _ => none)
    | .join => (match a, see μ b with
      | .str x, .lst ds => (strsOf ds).bind fun ys => if (ys.map (·.length)).sum + ys.length * x.length ≤ 16777216 then some (.str (Txt.join x ys)) else none
      | .str x, .tup ds => (strsOf ds).bind fun ys => if (ys.map (·.length)).sum + ys.length * x.length ≤ 16777216 then some (.str (Txt.join x ys)) else none
      | _, _ => none)
    | _ => none)
  | _ => none
def ixD (μ : List Mo) (a i : D) : Option D := match see μ a, i with
  | .tup xs, .int j => L2.atI xs j
  | .lst xs, .int j => L2.atI xs j
  | .scr ns, .int j => (L2.atI ns j).map .int
  | .str z, .int j => if z.length ≤ sizeLine then (L2.atI z.cps.toList j).map fun c => .str ⟨#[c]⟩ else none
  | .obj n, .str z => (match μ[n]? with
    | some (.dct kvs) => kvs.lookup z
    | _ => none)
  | .obj n, .tup ds => (match μ[n]? with
    | some (.dcn kvs) => (nkT (.tup ds)).bind (lookN kvs)
    | _ => none)
  | _, _ => none
/-- whether a thing is a dict with keys of any depth -/
def isDcn (μ : List Mo) : D → Bool
  | .obj n => (match μ[n]? with
    | some (.dcn _) => true
    | _ => false)
  | _ => false
/-- d.get(k, x) -/
def getN (μ : List Mo) (a k x : D) : Option D := match a with
  | .obj n => (match μ[n]? with
    | some (.dcn kvs) => (nkT k).map fun k => (lookN kvs k).getD x
    | _ => none)
  | _ => none
/-- the pairs of a dict with text keys -/
def dctOf (μ : List Mo) : D → Option (List (Str × D))
  | .obj n => (match μ[n]? with
    | some (.dct kvs) => if (decide (kvs.length ≤ 1000) && decide (kvs.map (·.1)).Nodup) = true then some kvs else none
    | _ => none)
  | _ => none
/-- the items of a list or a tuple -/
def itemsD (μ : List Mo) (a : D) : Option (List D) := match see μ a with
  | .lst xs => some xs
  | .tup xs => some xs
  | _ => none
def cutL {α : Type} (xs : List α) (lo hi : Option Int) : List α := (xs.drop (HT.sIx xs.length 0 lo)).take (HT.sIx xs.length xs.length hi - HT.sIx xs.length 0 lo)
def slD (μ : List Mo) (a : D) (l h : Option Int) : Option D := match see μ a with
  | .tup xs => some (.tup (cutL xs l h))
  | .lst xs => some (.lst (cutL xs l h))
  | .str z => if z.length ≤ sizeLine then some (.str (L2.cutS z l h)) else none
  | _ => none
def revD (μ : List Mo) (a : D) : Option D := match see μ a with
  | .lst xs => some (.lst xs.reverse)
  | .tup xs => some (.tup xs.reverse)
  | _ => none
/-! ### terms -/
/-- an exception of a class of one's own: its name, what its attribute holds -/
abbrev Ex := Str × Option D
abbrev RM (α : Type) := Option (Except Ex α × List Mo)
@[reducible] def bindR {α β : Type} (x : RM α) (f : α → List Mo → RM β) : RM β := match x with
  | none => none
  | some (.error e, μ) => some (.error e, μ)
  | some (.ok a, μ) => f a μ
def retR {α : Type} (a : α) (μ : List Mo) : RM α := some (.ok a, μ)
def optR {α : Type} (a : Option α) (μ : List Mo) : RM α := a.bind fun a => some (.ok a, μ)
/-- what a def comes to -/
abbrev Sem := List D → List Mo → RM D
/-- what a slot holds: nothing that is known; data; a list that it alone holds -/
inductive Sl | un | d (x : D) | lin (xs : List D)
inductive Tg
  | name (i : Nat)
  | pair (a b : Tg)
  | trip (a b c : Tg)
  | many (is : List Nat)
mutual
inductive E
  | var (i : Nat) | con (d : D)
  | op (o : Op) (a b : E) | neg (a : E) | not_ (a : E) | and_ (a b : E) | or_ (a b : E) | ite (c a b : E)
  | chain (o o' : Op) (a b c : E)
  | idx (a b : E) | lidx (i : Nat) (b : E) | slc (a : E) (lo hi : Eo) | rev (a : E)
  | tup (es : Es) | lst (es : Es) | mlst (es : Es)
  | call (F : Sem) (es : Es) | bi (f : Bi) (es : Es)
  | comp (elt : E) (tg : Tg) (it : It) (cond : E) (own : List Nat)
  | lrng (a : E)
  | err (nms : List (Str × Str)) (e : E)
  | meth (f : Bi) (o : E) (es : Es)
  | mrep (x k : E) | dct (ks : List Str) (es : Es)
  | nott (a : E)
  | dyn (i : Nat) (tb : List (Str × Nat × Sem)) (es : Es)
  | dnew | dget (o k x : E) | mcp (e : E) | dcp (i : Nat) (e : E)
  | compn (elt : E) (tg : Tg) (it : It) (cond : E) (cl : Cl) (own : List Nat)
inductive Es | nil | cons (e : E) (es : Es)
inductive Eo | no | yes (e : E)
/-- the clauses behind the first one of a comprehension -/
inductive Cl | nil | cons (tg : Tg) (it : It) (cond : E) (vs : List Nat) (cl : Cl)
inductive It | seq (e : E) | rng (a : E) | rng2 (a b : E) | enum (e : E) | zip (a b : E)
end
def wipeS (δ : List Sl) : List Nat → List Sl
  | [] => δ
  | v :: vs => (wipeS δ vs).set v .un
def putAll : List Nat → List D → List Sl → Option (List Sl)
  | [], [], δ => some δ
  | i :: is, d :: ds, δ => putAll is ds (δ.set i (.d d))
  | _, _, _ => none
def Tg.put : Tg → D → List Sl → Option (List Sl)
  | .name i, d, δ => some (δ.set i (.d d))
  | .pair s t, .tup [a, b], δ => (s.put a δ).bind fun δ => t.put b δ
  | .pair s t, .lst [a, b], δ => (s.put a δ).bind fun δ => t.put b δ
  | .trip s t u, .tup [a, b, c], δ => (s.put a δ).bind fun δ => (t.put b δ).bind fun δ => u.put c δ
  | .many is, .tup ds, δ => putAll is ds δ
  | _, _, _ => none
def Tg.slots : Tg → List Nat
  | .name i => [i]
  | .pair a b => a.slots ++ b.slots
  | .trip a b c => a.slots ++ (b.slots ++ c.slots)
  | .many is => is
/-- truth -/
def truD : D → Option Bool
  | .bl b => some b
  | .int i => some (!(i == 0))
  | _ => none
/-- no exception -/
def noE {α : Type} : RM α → Option (α × List Mo)
  | some (.ok a, μ) => some (a, μ)
  | _ => none
/-- the turns of a comprehension: keep tells whether, elt what -/
def compL (tg : Tg) (keep elt : List Sl → List Mo → RM D) (δ : List Sl) : List D → List D → List Mo → RM D
  | [], acc, μ => retR (.lst acc) μ
  | x :: xs, acc, μ => (tg.put x δ).bind fun δ1 => (noE (keep δ1 μ)).bind fun r => match r.1 with
    | .bl true => (noE (elt δ1 r.2)).bind fun q => if acc.length < sizeLine then compL tg keep elt δ xs (acc ++ [q.1]) q.2 else none
    | .bl false => compL tg keep elt δ xs acc r.2
    | _ => none
/-- the turns of a clause: what is told, and the items so far -/
def clsL (tg : Tg) (keep : List Sl → List Mo → RM D) (body : List Sl → List D → List Mo → Option (List D × List Mo)) (δ : List Sl) : List D → List D → List Mo → Option (List D × List Mo)
  | [], acc, μ => some (acc, μ)
  | x :: xs, acc, μ => (tg.put x δ).bind fun δ1 => (noE (keep δ1 μ)).bind fun r => match r.1 with
    | .bl true => (body δ1 acc r.2).bind fun q => clsL tg keep body δ xs q.1 q.2
    | .bl false => clsL tg keep body δ xs acc r.2
    | _ => none
/-- an item more -/
def oneL (elt : List Sl → List Mo → RM D) (δ : List Sl) (acc : List D) (μ : List Mo) : Option (List D × List Mo) := (noE (elt δ μ)).bind fun q => if acc.length < sizeLine then some (acc ++ [q.1], q.2) else none
def endL : Option (List D × List Mo) → RM D
  | some (acc, μ) => retR (.lst acc) μ
  | none => none
def rgD (a b : Int) : List D := (List.range (b - a).toNat).map fun (i : Nat) => D.int (a + i)
def rgOk (i j : Int) : Bool := decide (-(2 ^ 62) ≤ i) && decide (i < 2 ^ 62) && decide (-(2 ^ 62) ≤ j) && decide (j < 2 ^ 62)
def enumD (ds : List D) : List D := (List.range ds.length).zipWith (fun (i : Nat) d => D.tup [.int i, d]) ds
def zipD (xs ys : List D) : List D := xs.zipWith (fun x y => D.tup [x, y]) ys
/-- the items of a thing that is walked: true: a tuple -/
def seqD (μ : List Mo) (a : D) : Option (List D) := match see μ a with
  | .tup xs => some xs
  | .lst xs => some xs
  | _ => none
def enumK : D → Option (List D)
  | .lst xs => some (enumD xs)
  | .tup xs => some (enumD xs)
  | _ => none
def zipK : D → D → Option (List D)
  | .lst xs, .lst ys => some (zipD xs ys)
  | .tup xs, .tup ys => some (zipD xs ys)
  | _, _ => none
mutual
def ev : E → List Sl → List Mo → RM D
  | .var i, δ, μ => (match δ[i]? with
    | some (.d x) => retR x μ
    | _ => none)
  | .con d, _, μ => retR d μ
  | .op o a b, δ, μ => bindR (ev a δ μ) fun x μ => bindR (ev b δ μ) fun y μ => optR (o.do μ x y) μ
  | .neg a, δ, μ => bindR (ev a δ μ) fun x μ => (match x with
    | .int i => retR (.int (-i)) μ
    | _ => none)
  | .not_ a, δ, μ => bindR (ev a δ μ) fun x μ => (match x with
    | .bl b => retR (.bl (!b)) μ
    | _ => none)
  | .and_ a b, δ, μ => bindR (ev a δ μ) fun x μ => (match x with
    | .bl true => ev b δ μ
    | .bl false => retR (.bl false) μ
    | _ => none)
  | .or_ a b, δ, μ => bindR (ev a δ μ) fun x μ => (match x with
    | .bl true => retR (.bl true) μ
    | .bl false => ev b δ μ
    | _ => none)
  | .ite c a b, δ, μ => bindR (ev c δ μ) fun x μ => (match x with
    | .bl true => ev a δ μ
    | .bl false => ev b δ μ
    | _ => none)
  | .chain o o' a b c, δ, μ => bindR (ev a δ μ) fun x μ => bindR (ev b δ μ) fun y μ => bindR (optR (o.do μ x y) μ) fun z μ => (match z with
    | .bl true => bindR (ev c δ μ) fun w μ => optR (o'.do μ y w) μ
    | .bl false => retR (.bl false) μ
    | _ => none)
  | .idx a b, δ, μ => bindR (ev a δ μ) fun x μ => bindR (ev b δ μ) fun y μ => optR (ixD μ x y) μ
  | .lidx i b, δ, μ => (match δ[i]? with
    | some (.lin xs) => bindR (ev b δ μ) fun y μ => (match y with
      | .int j => optR (L2.atI xs j) μ
      | _ => none)
    | _ => none)
  | .slc a lo hi, δ, μ => bindR (ev a δ μ) fun x μ => bindR (evo lo δ μ) fun l μ => bindR (evo hi δ μ) fun h μ => optR (slD μ x l h) μ
  | .rev a, δ, μ => bindR (ev a δ μ) fun x μ => optR (revD μ x) μ
  | .tup es, δ, μ => bindR (evs es δ μ) fun xs μ => if xs.length ≤ sizeLine then retR (.tup xs) μ else none
  | .lst es, δ, μ => bindR (evs es δ μ) fun xs μ => if xs.length ≤ sizeLine then retR (.lst xs) μ else none
  | .mlst es, δ, μ => bindR (evs es δ μ) fun xs μ => if xs.length ≤ sizeLine then retR (.obj μ.length) (μ ++ [.lst xs]) else none
  | .call F es, δ, μ => bindR (evs es δ μ) fun xs μ => F xs μ
  | .bi f es, δ, μ => bindR (evs es δ μ) fun xs μ => optR (f.do μ xs) μ
  | .comp elt tg it cond own, δ, μ => bindR (evi it δ μ) fun xs μ => compL tg (ev cond) (ev elt) (wipeS δ own) xs [] μ
  | .lrng a, δ, μ => bindR (ev a δ μ) fun x μ => (match x with
    | .int j => if (decide (-(2 ^ 62) ≤ j) && decide (j ≤ 16777216)) = true then retR (.lst (rgD 0 j)) μ else none
    | _ => none)
  | .err nms e, δ, μ => (match ev e δ μ with
    | some (.ok _, μ) => retR (.str "") μ
    | some (.error (c, none), μ) => optR ((nms.lookup c).map .str) μ
    | _ => none)
  | .meth f o es, δ, μ => bindR (ev o δ μ) fun x μ => (match x with
    | .str z => bindR (evs es δ μ) fun xs μ => optR (f.do μ (.str z :: xs)) μ
    | _ => none)
  | .mrep x k, δ, μ => bindR (ev x δ μ) fun d μ => bindR (ev k δ μ) fun y μ => (match y with
    | .int j => if (decide (-(2 ^ 63) ≤ j) && decide (j < 2 ^ 63) && decide (j.toNat ≤ sizeLine)) = true then retR (.obj μ.length) (μ ++ [.lst (List.replicate j.toNat d)]) else none
    | _ => none)
  | .dct ks es, δ, μ => bindR (evs es δ μ) fun xs μ => if (decide (ks.length = xs.length) && decide (ks.length ≤ 15) && decide ks.Nodup && !ks.isEmpty) = true then retR (.obj μ.length) (μ ++ [.dct (ks.zip xs)]) else none
  | .nott a, δ, μ => bindR (ev a δ μ) fun x μ => optR ((truD x).map fun b => .bl (!b)) μ
  | .dyn i tb es, δ, μ => (match δ[i]? with
    | some (.d (.glo x)) => (match tb.lookup x with
      | some (a, F) => bindR (evs es δ μ) fun xs μ => if xs.length = a then F xs μ else none
      | none => none)
    | _ => none)
  | .dnew, _, μ => retR (.obj μ.length) (μ ++ [.dcn []])
  | .dget o k x, δ, μ => bindR (ev o δ μ) fun a μ => if isDcn μ a = true then bindR (ev k δ μ) fun b μ => bindR (ev x δ μ) fun c μ => optR (getN μ a b c) μ else none
  | .mcp e, δ, μ => bindR (ev e δ μ) fun x μ => (match itemsD μ x with
    | some xs => retR (.obj μ.length) (μ ++ [.lst xs])
    | none => none)
  | .dcp i e, δ, μ => bindR (ev e δ μ) fun x μ => (match dctOf μ x with
    | some kvs => if i < δ.length then retR (.obj μ.length) (μ ++ [.dct kvs]) else none
    | none => none)
  | .compn elt tg it cond cl own, δ, μ => bindR (evi it δ μ) fun xs μ => endL (clsL tg (ev cond) (evc (ev elt) cl) (wipeS δ own) xs [] μ)
def evc (elt : List Sl → List Mo → RM D) : Cl → List Sl → List D → List Mo → Option (List D × List Mo)
  | .nil, δ, acc, μ => oneL elt δ acc μ
  | .cons tg it cond vs cl, δ, acc, μ => (noE (evi it δ μ)).bind fun r => clsL tg (ev cond) (evc elt cl) (wipeS δ vs) r.1 acc r.2
def evs : Es → List Sl → List Mo → RM (List D)
  | .nil, _, μ => retR [] μ
  | .cons e es, δ, μ => bindR (ev e δ μ) fun x μ => bindR (evs es δ μ) fun xs μ => retR (x :: xs) μ
def evo : Eo → List Sl → List Mo → RM (Option Int)
  | .no, _, μ => retR none μ
  | .yes e, δ, μ => bindR (ev e δ μ) fun x μ => (match x with
    | .int i => retR (some i) μ
    | _ => none)
def evi : It → List Sl → List Mo → RM (List D)
  | .seq e, δ, μ => bindR (ev e δ μ) fun x μ => optR (seqD [] x) μ
  | .rng a, δ, μ => bindR (ev a δ μ) fun x μ => (match x with
    | .int j => if rgOk 0 j = true then retR (rgD 0 j) μ else none
    | _ => none)
  | .rng2 a b, δ, μ => bindR (ev a δ μ) fun x μ => bindR (ev b δ μ) fun y μ => (match x, y with
    | .int i, .int j => if rgOk i j = true then retR (rgD i j) μ else none
    | _, _ => none)
  | .enum e, δ, μ => bindR (ev e δ μ) fun x μ => optR (enumK x) μ
  | .zip a b, δ, μ => bindR (ev a δ μ) fun x μ => bindR (ev b δ μ) fun y μ => optR (zipK x y) μ
end
/-! ### statements -/
inductive Fl | nx | bk | ct | rt (d : D) | ex (e : Ex)
abbrev SM := Option (Fl × List Sl × List Mo)
mutual
inductive St
  | pass | expr (e : E) | set (t : Tg) (e : E) | ret (e : E) | retn | ite (c : E) (a b : Ss)
  | for_ (t : Tg) (it : It) (body : Ss) | while_ (fuel : Nat) (c : E) (body : Ss) | brk | cont
  | raise (c : Str)
  | put (o i e : E) | lin (i : Nat) (es : Es) | app (i : Nat) (e : E) | still (i : Nat) | bot
  | raisep (c : Str) (e : E)
  | linc (i : Nat) (e : E) | lput (i : Nat) (j e : E) | setl (i j : Nat) (e : E)
  | put2 (o i o2 i2 e e2 : E) | setl2 (i j k : Nat) (e : E)
inductive Ss | nil | cons (s : St) (ss : Ss)
end
@[reducible] def thenE {α : Type} (x : RM α) (δ : List Sl) (f : α → List Mo → SM) : SM := match x with
  | none => none
  | some (.error e, μ) => some (.ex e, δ, μ)
  | some (.ok a, μ) => f a μ
@[reducible] def thenS (x : SM) (f : List Sl → List Mo → SM) : SM := match x with
  | some (.nx, δ, μ) => f δ μ
  | x => x
def forL (tg : Tg) (body : List Sl → List Mo → SM) : List D → List Sl → List Mo → SM
  | [], δ, μ => some (.nx, δ, μ)
  | x :: xs, δ, μ => (tg.put x δ).bind fun δ1 => match body δ1 μ with
    | some (.nx, δ, μ) => forL tg body xs δ μ
    | some (.ct, δ, μ) => forL tg body xs δ μ
    | some (.bk, δ, μ) => some (.nx, δ, μ)
    | r => r
def whileL (test : List Sl → List Mo → RM D) (body : List Sl → List Mo → SM) : Nat → List Sl → List Mo → SM
  | 0, _, _ => none
  | n + 1, δ, μ => thenE (test δ μ) δ fun c μ => match c with
    | .bl true => (match body δ μ with
      | some (.nx, δ, μ) => whileL test body n δ μ
      | some (.ct, δ, μ) => whileL test body n δ μ
      | some (.bk, δ, μ) => some (.nx, δ, μ)
      | r => r)
    | .bl false => some (.nx, δ, μ)
    | _ => none
/-- the value at a key that is there is another -/
def putS (kvs : List (Str × D)) (z : Str) (v : D) : List (Str × D) := kvs.map fun p => if p.1 = z then (p.1, v) else p
/-- o[i] = v -/
def putD (μ : List Mo) (o i v : D) : Option (List Mo) := match o with
  | .obj n => (match μ[n]?, i with
    | some (.lst xs), .int k => (L2.ixN xs.length k).map fun j => μ.set n (.lst (xs.set j v))
    | some (.dct kvs), .str z => if (decide (kvs.length ≤ 1000) && (kvs.lookup z).isSome) = true then some (μ.set n (.dct (putS kvs z v))) else none
    | some (.dcn kvs), .tup ds => (nkT (.tup ds)).bind fun k => if kvs.length < 1000000 then some (μ.set n (.dcn (putN kvs k v))) else none
    | _, _ => none)
  | _ => none
mutual
def ex : St → List Sl → List Mo → SM
  | .pass, δ, μ => some (.nx, δ, μ)
  | .expr e, δ, μ => thenE (ev e δ μ) δ fun _ μ => some (.nx, δ, μ)
  | .set t e, δ, μ => thenE (ev e δ μ) δ fun x μ => (t.put x δ).bind fun δ => some (.nx, δ, μ)
  | .ret e, δ, μ => thenE (ev e δ μ) δ fun x μ => some (.rt x, δ, μ)
  | .retn, δ, μ => some (.rt .non, δ, μ)
  | .ite c a b, δ, μ => thenE (ev c δ μ) δ fun x μ => (match x with
    | .bl true => exs a δ μ
    | .bl false => exs b δ μ
    | _ => none)
  | .for_ t it body, δ, μ => thenE (evi it δ μ) δ fun xs μ => forL t (exs body) xs δ μ
  | .while_ n c body, δ, μ => whileL (ev c) (exs body) n δ μ
  | .brk, δ, μ => some (.bk, δ, μ)
  | .cont, δ, μ => some (.ct, δ, μ)
  | .raise c, δ, μ => some (.ex (c, none), δ, μ)
  | .raisep c e, δ, μ => thenE (ev e δ μ) δ fun x μ => (match x with
    | .int i => some (.ex (c, some (.int i)), δ, μ)
    | _ => none)
  | .put o i e, δ, μ => thenE (ev e δ μ) δ fun v μ => thenE (ev o δ μ) δ fun x μ => thenE (ev i δ μ) δ fun k μ => (putD μ x k v).bind fun μ => some (.nx, δ, μ)
  | .lin i es, δ, μ => thenE (evs es δ μ) δ fun xs μ => if xs.length ≤ sizeLine then some (.nx, δ.set i (.lin xs), μ) else none
  | .app i e, δ, μ => (match δ[i]? with
    | some (.lin xs) => thenE (ev e δ μ) δ fun x μ => if xs.length < sizeLine then some (.nx, δ.set i (.lin (xs ++ [x])), μ) else none
    | _ => none)
  | .still i, δ, μ => (match δ[i]? with
    | some (.lin xs) => some (.nx, δ.set i (.d (.lst xs)), μ)
    | _ => none)
  | .bot, _, _ => none
  | .linc i e, δ, μ => thenE (ev e δ μ) δ fun x μ => (match x with
    | .lst xs => some (.nx, δ.set i (.lin xs), μ)
    | _ => none)
  | .lput i j e, δ, μ => thenE (ev e δ μ) δ fun v μ => (match δ[i]? with
    | some (.lin xs) => thenE (ev j δ μ) δ fun k μ => (match k with
      | .int k => (L2.ixN xs.length k).bind fun n => some (.nx, δ.set i (.lin (xs.set n v)), μ)
      | _ => none)
    | _ => none)
  | .setl i j e, δ, μ => thenE (ev e δ μ) δ fun x μ => some (.nx, (δ.set i (.d x)).set j (.lin []), μ)
  | .put2 o i o2 i2 e e2, δ, μ => thenE (ev e δ μ) δ fun v μ => thenE (ev e2 δ μ) δ fun v2 μ => thenE (ev o δ μ) δ fun x μ => thenE (ev i δ μ) δ fun k μ => (putD μ x k v).bind fun μ =>
    thenE (ev o2 δ μ) δ fun x2 μ => thenE (ev i2 δ μ) δ fun k2 μ => (putD μ x2 k2 v2).bind fun μ => some (.nx, δ, μ)
  | .setl2 i j k e, δ, μ => thenE (ev e δ μ) δ fun x μ => some (.nx, ((δ.set i (.d x)).set j (.lin [])).set k (.lin []), μ)
def exs : Ss → List Sl → List Mo → SM
  | .nil, δ, μ => some (.nx, δ, μ)
  | .cons s ss, δ, μ => thenS (ex s δ μ) fun δ μ => exs ss δ μ
end
/-- a def: so many parameters, so many slots, its body -/
def run (np ns : Nat) (b : Ss) : Sem := fun xs μ => if xs.length = np then (match exs b (xs.map .d ++ List.replicate (ns - np) .un) μ with
  | some (.nx, _, μ) => retR .non μ
  | some (.rt d, _, μ) => retR d μ
  | some (.ex e, _, μ) => some (.error e, μ)
  | _ => none) else none
end Mi
set_option Elab.async false
set_option linter.all false
set_option maxRecDepth 100000
set_option maxHeartbeats 4000000
/-! Mv: the operators' rules over data. -/
namespace Mi
open PySem PySem.Spec PyProof.Rows L2
section
variable {K : PySem.W.Frag} {mg : Str → Option Value} {T : TW} {ι Z Zf ι' Z' : List Addr} {H H' : Hp} {μ : List Mo}
theorem ext_fresh {p : Addr} {o : HO} (hp : H p = none) : Ext ι Zf H ι (upd H p o) := by
  refine ⟨⟨[], by simp, by simp⟩, fun a u q _ _ _ => ?_, fun a u q => ⟨u, ?_⟩, fun a xs q => ?_⟩
  · rw [upd_ne (ne_of_none q hp)]; exact q
  · rw [upd_ne (ne_of_none q hp)]; exact q
  · rw [upd_ne (ne_of_none q hp)]; exact q
theorem RG.fresh (g : RG K mg T ι Z H μ) {p : Addr} {o : HO} (hp : H p = none) : RG K mg T ι Z (upd H p o) μ := by
  refine ⟨g.nd, g.len, fun n m h => ?_, fun z hz => ?_, g.tabs.ext fun b u q => ?_⟩
  · obtain ⟨a, h1, h2⟩ := g.mem n m h
    obtain ⟨u, q, _⟩ := h2.at
    exact ⟨a, h1, h2.ext (Zf := []) (ext_fresh hp) (by simp) (fun _ z => .inl z) (upd_ne (ne_of_none q hp))⟩
  · obtain ⟨⟨vs, q⟩, n⟩ := g.zl z hz
    exact ⟨⟨vs, by rw [upd_ne (ne_of_none q hp)]; exact q⟩, n⟩
  · rw [upd_ne (ne_of_none q hp)]; exact q
/-- a new tuple, a new list -/
theorem Rp.newT {p : Addr} {ds : List D} {vs : List V} (hp : H p = none) (h : Rps K mg ι Z H ds vs) : Rp K mg ι Z (upd H p (.tup vs)) (.tup ds) (.ref p) :=
  ⟨p, vs, rfl, .inl upd_same, h.ext0 (ext_fresh hp)⟩
theorem RG.notin (g : RG K mg T ι Z H μ) {p : Addr} (hp : H p = none) : p ∉ ι ∧ p ∉ Z := by
  refine ⟨fun z => ?_, fun z => ?_⟩
  · obtain ⟨n, e⟩ := List.getElem?_of_mem z
    have hn : n < μ.length := by rw [← g.len]; exact (List.getElem?_eq_some_iff.mp e).1
    obtain ⟨a, h1, h2⟩ := g.mem n μ[n] (List.getElem?_eq_getElem hn)
    rw [e] at h1; cases h1
    obtain ⟨u, q, _⟩ := h2.at
    rw [hp] at q; cases q
  · obtain ⟨⟨vs, q⟩, _⟩ := g.zl p z
    rw [hp] at q; cases q
theorem Rp.newL (g : RG K mg T ι Z H μ) {p : Addr} {ds : List D} {vs : List V} (hp : H p = none) (h : Rps K mg ι Z H ds vs) : Rp K mg ι Z (upd H p (.lst vs)) (.lst ds) (.ref p) :=
  ⟨p, vs, rfl, ⟨upd_same, g.notin hp⟩, h.ext0 (ext_fresh hp)⟩
theorem see_cases (μ : List Mo) (d : D) : see μ d = d ∨ ∃ n xs, d = .obj n ∧ μ[n]? = some (.lst xs) ∧ see μ d = .lst xs := by
  cases d with
  | obj n =>
    cases h : μ[n]? with
    | none => exact .inl (by simp only [see, h])
    | some m =>
      cases m with
      | lst xs => exact .inr ⟨n, xs, rfl, h, by simp only [see, h]⟩
      | dct _ => exact .inl (by simp only [see, h])
      | ins _ _ => exact .inl (by simp only [see, h])
      | dcn _ => exact .inl (by simp only [see, h])
  | _ => exact .inl rfl
theorem see_lst (g : RG K mg T ι Z H μ) {d : D} {xs : List D} {v : V} (e : see μ d = .lst xs) (h : Rp K mg ι Z H d v) : ∃ a vs, v = .ref a ∧ H a = some (.lst vs) ∧ Rps K mg ι Z H xs vs := by
  rcases see_cases μ d with q | ⟨n, ys, rfl, h1, q⟩
  · rw [q] at e; subst e
    obtain ⟨a, vs, h1, ⟨h2, _⟩, h3⟩ := h
    exact ⟨a, vs, h1, h2, h3⟩
  · rw [q] at e; cases e
    obtain ⟨a, h2, vs, h3, h4⟩ := g.mem n _ h1
    obtain ⟨b, rfl, h5⟩ := h
    rw [h5] at h2; cases h2
    exact ⟨_, vs, rfl, h3, h4⟩
theorem see_of {d e : D} (h : see μ d = e) (n : ∀ xs, e ≠ .lst xs) : d = e := by
  rcases see_cases μ d with q | ⟨_, xs, _, _, q⟩
  · rw [← q]; exact h
  · rw [q] at h; exact absurd h.symm (n xs)
theorem see_seq (g : RG K mg T ι Z H μ) {d : D} {xs : List D} {v : V} (e : see μ d = .tup xs) (h : Rp K mg ι Z H d v) : ∃ a vs, v = .ref a ∧ TupAt K H a vs ∧ Rps K mg ι Z H xs vs := by
  have := see_of e (fun _ z => by cases z)
  subst this
  exact h
mutual
theorem dp_of : ∀ (d : D) (v : V) (p : PyData), Rp K mg ι Z H d v → py0 d = some p → Dp K H v p
  | .non, _, _, h, e => by rw [show _ = V.non from h]; simp only [py0, Option.some.injEq] at e; subst e; exact .non
  | .bl b, _, _, h, e => by rw [show _ = V.bl b from h]; simp only [py0, Option.some.injEq] at e; subst e; exact .bl b
  | .int i, _, _, h, e => by rw [show _ = V.int i from h]; simp only [py0, Option.some.injEq] at e; subst e; exact .int i
  | .str x, _, _, h, e => by rw [show _ = V.str x from h]; simp only [py0, Option.some.injEq] at e; subst e; exact .str x
  | .tup ds, v, p, h, e => by
    obtain ⟨a, vs, rfl, h1, h2⟩ := h
    simp only [py0, Option.map_eq_some_iff] at e
    obtain ⟨ps, e1, rfl⟩ := e
    exact .tup h1.sq (dps_of ds vs ps h2 e1)
  | .lst ds, v, p, h, e => by
    obtain ⟨a, vs, rfl, ⟨h1, _⟩, h2⟩ := h
    simp only [py0, Option.map_eq_some_iff] at e
    obtain ⟨ps, e1, rfl⟩ := e
    exact .lst (SqL.of h1) (dps_of ds vs ps h2 e1)
  | .ty _, _, _, _, e => by simp [py0] at e
  | .glo _, _, _, _, e => by simp [py0] at e
  | .obj _, _, _, _, e => by simp [py0] at e
  | .scr _, _, _, _, e => by simp [py0] at e
theorem dps_of : ∀ (ds : List D) (vs : List V) (ps : List PyData), Rps K mg ι Z H ds vs → py0s ds = some ps → DpAll K H vs ps
  | [], _, _, h, e => by rw [show _ = [] from h]; simp only [py0s, Option.some.injEq] at e; subst e; exact .nil
  | d :: ds, _, _, h, e => by
    obtain ⟨v, vs', rfl, h1, h2⟩ := h
    simp only [py0s, Option.bind_eq_some_iff, Option.map_eq_some_iff] at e
    obtain ⟨p, e1, ps, e2, rfl⟩ := e
    exact .cons (dp_of d v p h1 e1) (dps_of ds vs' ps h2 e2)
end
theorem dp_see (g : RG K mg T ι Z H μ) {d : D} {v : V} {p : PyData} (h : Rp K mg ι Z H d v) (e : py0 (see μ d) = some p) : Dp K H v p := by
  rcases see_cases μ d with q | ⟨n, xs, rfl, h1, q⟩
  · rw [q] at e; exact dp_of d v p h e
  · rw [q] at e
    obtain ⟨a, vs, rfl, h2, h3⟩ := see_lst g q h
    simp only [py0, Option.map_eq_some_iff] at e
    obtain ⟨ps, e1, rfl⟩ := e
    exact .lst (SqL.of h2) (dps_of xs vs ps h3 e1)
theorem intsOf_eq : ∀ {ds : List D} {ns : List Int}, intsOf ds = some ns → ds = ns.map D.int
  | [], _, e => by simp only [intsOf, Option.some.injEq] at e; subst e; rfl
  | d :: ds, ns, e => by
    cases d <;> simp only [intsOf] at e
    case int i =>
      simp only [Option.map_eq_some_iff] at e
      obtain ⟨ms, e1, rfl⟩ := e
      rw [intsOf_eq e1]; rfl
    all_goals cases e
end
/-- what an operator's rule asks: data on both sides, the outcome by the small language -/
def r2 (K : PySem.W.Frag) (mg : Str → Option Value) (T : TW) (o : Op) : R2 := fun x y H Q => ∃ ι Z μ d e r, RG K mg T ι Z H μ ∧ Rp K mg ι Z H d x ∧ Rp K mg ι Z H e y ∧ o.do μ d e = some r ∧
  ∀ ι' v H', Ext ι [] H ι' H' → RG K mg T ι' Z H' μ → Rp K mg ι' Z H' r v → Q v H'
section
variable {X : Cx} {T : TW}
theorem ok_add : OpR X (binaryOp .Add) (r2 X.K X.mg T .add) := by
  intro pins s σ H x y v u Q I rx ry h
  obtain ⟨ι, Z, μ, d, e, r, g, hd, he, ho, q⟩ := h
  simp only [Op.do, addD] at ho
  split at ho
  · rename_i i j e1 e2
    have e1 := see_of e1 (fun _ z => by cases z)
    have e2 := see_of e2 (fun _ z => by cases z)
    subst e1 e2
    cases ho
    exact op_add pins s σ H x y v u Q I rx ry ⟨i, j, hd, he, q ι _ H Ext.refl g rfl⟩
  · rename_i i j e1 e2
    have e1 := see_of e1 (fun _ z => by cases z)
    have e2 := see_of e2 (fun _ z => by cases z)
    subst e1 e2
    cases ho
    have hd' : x = V.bl i := hd
    have he' : y = V.int j := he
    subst hd' he'
    cases rx
    obtain ⟨t', rfl⟩ := ry
    exact PySem.IntBool.add_bool_int ⟨.int _, H, I.tok _, ⟨_, rfl⟩, q ι _ H Ext.refl g rfl⟩
  · rename_i i j e1 e2
    have e1 := see_of e1 (fun _ z => by cases z)
    have e2 := see_of e2 (fun _ z => by cases z)
    subst e1 e2
    split at ho <;> cases ho
    rename_i hz
    exact op_add_str pins s σ H x y v u Q I rx ry ⟨i, j, hd, he, hz, q ι _ H Ext.refl g rfl⟩
  · rename_i xs ys e1 e2
    obtain ⟨a, vs, rfl, h1, h2⟩ := see_seq g e1 hd
    obtain ⟨b, ws, rfl, h3, h4⟩ := see_seq g e2 he
    split at ho <;> cases ho
    rename_i hz
    have l1 := h2.length
    have l2 := h4.length
    refine op_catA pins s σ H _ _ v u Q I rx ry ⟨a, b, vs, ws, rfl, rfl, h1.sq, h3.sq, by omega, fun z => ?_, fun z1 z2 => ?_, fun z1 z2 p hp => ?_⟩
    · have := h2.nil_iff.mp z; subst this; subst z
      exact q ι _ H Ext.refl g ⟨b, ws, rfl, h3, by simpa using h4⟩
    · have := h4.nil_iff.mp z2; subst this; subst z2
      exact q ι _ H Ext.refl g ⟨a, vs, rfl, h1, by simpa using h2⟩
    · exact q ι _ _ (ext_fresh hp) (g.fresh hp) (Rp.newT hp (h2.append h4))
  · rename_i xs ys e1 e2
    obtain ⟨a, vs, rfl, h1, h2⟩ := see_lst g e1 hd
    obtain ⟨b, ws, rfl, h3, h4⟩ := see_lst g e2 he
    split at ho <;> cases ho
    rename_i hz
    have l1 := h2.length
    have l2 := h4.length
    exact op_cat pins s σ H _ _ v u Q I rx ry ⟨a, b, vs, ws, rfl, rfl, h1, h3, by omega, fun p hp => q ι _ _ (ext_fresh hp) (g.fresh hp) (Rp.newL g hp (h2.append h4))⟩
  · cases ho
theorem ok_sub : OpR X (binaryOp .Sub) (r2 X.K X.mg T .sub) := by
  intro pins s σ H x y v u Q I rx ry h
  obtain ⟨ι, Z, μ, d, e, r, g, hd, he, ho, q⟩ := h
  simp only [Op.do] at ho
  split at ho <;> cases ho
  · exact op_sub pins s σ H x y v u Q I rx ry ⟨_, _, hd, he, q ι _ H Ext.refl g rfl⟩
  · have hd' : x = V.bl _ := hd
    have he' : y = V.int _ := he
    subst hd' he'
    cases rx
    obtain ⟨t', rfl⟩ := ry
    exact PySem.IntBool.sub_bool_int ⟨.int _, H, I.tok _, ⟨_, rfl⟩, q ι _ H Ext.refl g rfl⟩
theorem ok_fdiv : OpR X (binaryOp .FloorDiv) (r2 X.K X.mg T .fdiv) := by
  intro pins s σ H x y v u Q I rx ry h
  obtain ⟨ι, Z, μ, d, e, r, g, hd, he, ho, q⟩ := h
  simp only [Op.do] at ho
  split at ho
  · split at ho
    · cases ho
      rename_i hc
      simp only [Bool.and_eq_true, decide_eq_true_eq] at hc
      exact op_fdivW pins s σ H x y v u Q I rx ry ⟨_, _, hd, he, ⟨hc.1, hc.2⟩, q ι _ H Ext.refl g rfl⟩
    · split at ho <;> cases ho
      rename_i hc
      unfold fdOk at hc
      simp only [Bool.and_eq_true, decide_eq_true_eq, Bool.not_eq_true'] at hc
      exact (opI (X := X) (f := binaryOp .FloorDiv) (C := fun i j => j ≠ 0 ∧ Builtin.divisionGoesByPylong i j = false) (g := fun i j => i.fdiv j) fun _ _ _ _ _ _ _ hc q => floordiv_int hc.1 q (.inl hc.2)) pins s σ H x y v u Q I rx ry ⟨_, _, hd, he, hc, q ι _ H Ext.refl g rfl⟩
  · cases ho
theorem ok_mod : OpR X (binaryOp .Mod) (r2 X.K X.mg T .mod) := by
  intro pins s σ H x y v u Q I rx ry h
  obtain ⟨ι, Z, μ, d, e, r, g, hd, he, ho, q⟩ := h
  simp only [Op.do] at ho
  split at ho
  · split at ho <;> cases ho
    rename_i hc
    exact op_mod pins s σ H x y v u Q I rx ry ⟨_, _, hd, he, hc, q ι _ H Ext.refl g rfl⟩
  · cases ho
theorem ok_pow : OpR X (binaryOp .Pow) (r2 X.K X.mg T .pow) := by
  intro pins s σ H x y v u Q I rx ry h
  obtain ⟨ι, Z, μ, d, e, r, g, hd, he, ho, q⟩ := h
  simp only [Op.do] at ho
  split at ho
  · split at ho <;> cases ho
    rename_i hc
    simp only [Bool.and_eq_true, decide_eq_true_eq] at hc
    exact op_pow pins s σ H x y v u Q I rx ry ⟨_, _, hd, he, ⟨hc.1.1, hc.1.2, hc.2⟩, q ι _ H Ext.refl g rfl⟩
  · cases ho
theorem ok_eq (hu : X.A.units + 64 < cLine) : OpR X (compareOp .Eq) (r2 X.K X.mg T .eq) := by
  intro pins s σ H x y v u Q I rx ry h
  obtain ⟨ι, Z, μ, d, e, r, g, hd, he, ho, q⟩ := h
  simp only [Op.do, Option.map_eq_some_iff, eqD, Option.bind_eq_some_iff] at ho
  obtain ⟨b, ⟨p1, e1, p2, e2, ho⟩, rfl⟩ := ho
  split at ho <;> cases ho
  rename_i hs
  rw [Bool.and_eq_true] at hs
  exact op_eqD hu pins s σ H x y v u Q I rx ry ⟨p1, p2, dp_see g hd e1, dp_see g he e2, hs.1, hs.2, q ι _ H Ext.refl g rfl⟩
theorem ok_ne (hu : X.A.units + 64 < cLine) : OpR X (compareOp .NotEq) (r2 X.K X.mg T .ne) := by
  intro pins s σ H x y v u Q I rx ry h
  obtain ⟨ι, Z, μ, d, e, r, g, hd, he, ho, q⟩ := h
  simp only [Op.do, Option.map_eq_some_iff, eqD, Option.bind_eq_some_iff] at ho
  obtain ⟨b, ⟨p1, e1, p2, e2, ho⟩, rfl⟩ := ho
  split at ho <;> cases ho
  rename_i hs
  rw [Bool.and_eq_true] at hs
  exact op_neD hu pins s σ H x y v u Q I rx ry ⟨p1, p2, dp_see g hd e1, dp_see g he e2, hs.1, hs.2, q ι _ H Ext.refl g rfl⟩
end
end Mi
set_option Elab.async false
set_option linter.all false
set_option maxRecDepth 100000
set_option maxHeartbeats 4000000
/-! Mq: dicts whose keys are tuples of any depth. -/
namespace Mi
open PySem PySem.Spec PyProof.Rows L2
section
variable {X : Cx} {pins : List (Addr × Obj)} {σ : L2.St} {H : Hp} {s : Shared}
theorem tup_at (I : Inv X pins σ H s) {a : Addr} {vs : List V} (h : TupAt X.K H a vs) : ∃ o its n, s.heap.get? a = some o ∧ o.cls = .type "tuple" ∧ o.data = .seq its n ∧ Vals vs its.toList := by
  obtain ⟨its, r, p, hz⟩ := I.tuple h.sq
  obtain ⟨o, ho, hc, n, hd⟩ := p
  exact ⟨o, its.toArray, n, ho, hc, hd, by simpa using r⟩
mutual
theorem key_is (I : Inv X pins σ H s) : ∀ (k : NestedKey) (v : V) (u : Value), KeyAt X.K H k v → RelV v u → NestedIs s.heap k u
  | .none, v, u, h, r => by
    have h : v = .non := h
    subst h
    obtain rfl : u = Value.none := r
    exact .none
  | .num i, v, u, h, r => by
    rcases (show v = .int i ∨ ∃ b, v = .bl b ∧ i = if b = true then 1 else 0 from h) with rfl | ⟨b, rfl, hb⟩
    · obtain ⟨t, rfl⟩ := r
      exact .int i t
    · obtain rfl : u = Value.bool b := r
      exact .bool hb
  | .text x, v, u, h, r => by
    have h : v = .str x := h
    subst h
    obtain ⟨t, rfl⟩ := r
    exact .text x t
  | .tup ks, v, u, h, r => by
    obtain ⟨a, vs, rfl, h1, h2⟩ := h
    obtain rfl : u = Value.ref a := r
    obtain ⟨o, its, n, ho, hc, hd, rv⟩ := tup_at I h1
    exact .tup ho hc hd (keys_are I ks vs its.toList h2 rv)
theorem keys_are (I : Inv X pins σ H s) : ∀ (ks : List NestedKey) (vs : List V) (us : List Value), KeysAt X.K H ks vs → Vals vs us → NestedAll s.heap ks us
  | [], vs, us, h, r => by
    have h : vs = [] := h
    subst h
    cases r
    exact .nil
  | k :: ks, vs, us, h, r => by
    obtain ⟨v, vs', rfl, h1, h2⟩ := h
    cases r with
    | cons r1 r2 => exact .cons (key_is I k v _ h1 r1) (keys_are I ks vs' _ h2 r2)
end
/-- the entries as the library has them -/
def NdX (xs : List (NestedKey × Addr × V)) (ys : List (NestedKey × Addr × Value)) : Prop := Paired (fun x y => y.1 = x.1 ∧ y.2.1 = x.2.1 ∧ RelV x.2.2 y.2.2) xs ys
theorem ndX_of {w : World} : ∀ {xs : List (NestedKey × Addr × V)} {es : List DictEntry}, Paired (NdE w) xs es → ∃ ys, NdX xs ys ∧ es = ys.map fun y => ⟨y.1.hash w, .ref y.2.1, y.2.2⟩
  | [], es, h => by cases h; exact ⟨[], .nil, rfl⟩
  | x :: xs, es, h => by
    cases h with
    | @cons _ e _ es h1 h2 =>
      obtain ⟨ys, r, e2⟩ := ndX_of h2
      obtain ⟨eh, ek, ev⟩ := e
      obtain ⟨q1, q2, q3⟩ := h1
      have q1 : eh = x.1.hash w := q1
      have q2 : ek = Value.ref x.2.1 := q2
      subst q1 q2
      exact ⟨(x.1, x.2.1, ev) :: ys, .cons ⟨rfl, rfl, q3⟩ r, by rw [e2]; rfl⟩
theorem ndE_of {w : World} : ∀ {xs : List (NestedKey × Addr × V)} {ys : List (NestedKey × Addr × Value)}, NdX xs ys → Paired (NdE w) xs (ys.map fun y => (⟨y.1.hash w, .ref y.2.1, y.2.2⟩ : DictEntry))
  | _, _, .nil => .nil
  | _, _, .cons ⟨h1, h2, h3⟩ t => .cons ⟨by show NestedKey.hash w _ = NestedKey.hash w _; rw [h1], by show Value.ref _ = Value.ref _; rw [h2], h3⟩ (ndE_of t)
abbrev NK (X : Cx) : HeapKind X.prog X.w NestedKey := nestedKind X.prog X.w
theorem ndk_keys {K : PySem.W.Frag} : ∀ {kvs : List (NestedKey × D)} {xs : List (NestedKey × Addr × V)}, Paired (NdK K H) kvs xs → xs.map (·.1) = kvs.map (·.1)
  | _, _, .nil => rfl
  | _, _, .cons h t => by rw [List.map_cons, List.map_cons, ndk_keys t, h.1]
theorem ndX_keys : ∀ {xs : List (NestedKey × Addr × V)} {ys : List (NestedKey × Addr × Value)}, NdX xs ys → ys.map (·.1) = xs.map (·.1)
  | _, _, .nil => rfl
  | _, _, .cons h t => by rw [List.map_cons, List.map_cons, ndX_keys t, h.1]
/-- the dict in the heap -/
theorem nd_dict (I : Inv X pins σ H s) {a : Addr} {kvs : List (NestedKey × D)} {xs : List (NestedKey × Addr × V)} (h : H a = some (NDo X.w a xs)) (hn : (kvs.map (·.1)).Nodup) (hk : Paired (NdK X.K H) kvs xs) : ∃ ys, NdX xs ys ∧ s.heap.DictOfH (NK X) a ys := by
  obtain ⟨⟨o, es, ep, ho, hc, hd, he⟩, _, _⟩ := (show ObjOk X.prog X.w H s.heap a (NDo X.w a xs) from I.hok a _ h)
  obtain ⟨ys, r, e⟩ := ndX_of he
  refine ⟨ys, r, o, es, ep, ho, hc, hd, e, ?_, by rw [ndX_keys r, ndk_keys hk]; exact hn⟩
  have all : ∀ {kvs : List (NestedKey × D)} {xs : List (NestedKey × Addr × V)} {ys : List (NestedKey × Addr × Value)}, Paired (NdK X.K H) kvs xs → NdX xs ys → ∀ y ∈ ys, (NK X).is s.heap y.1 y.2.1 := by
    intro kvs xs ys q r
    induction q generalizing ys with
    | nil => cases r; intro y hy; cases hy
    | cons h t ih =>
      cases r with
      | cons r1 r2 =>
        intro y hy
        rcases List.mem_cons.mp hy with e | hy
        · subst e
          rw [r1.1, r1.2.1, h.1]
          exact ⟨key_is I _ _ _ h.2.2 rfl, h.2.1⟩
        · exact ih r2 y hy
  exact all hk r
theorem nd_new (I : Inv X pins σ H s) : ObjOk X.prog X.w (upd H s.heap.objs.size (NDo X.w s.heap.objs.size [])) (s.heap.push { cls := .type "dict", data := .dict #[] }) s.heap.objs.size (NDo X.w s.heap.objs.size []) :=
  ⟨⟨_, #[], 0, Heap.get?_push_size _ rfl, ⟨rfl, rfl, rfl⟩, rfl, .nil⟩, ⟨_, Heap.get?_push_size _ rfl⟩, fun h1 h2 ⟨o, es, ep, ho, r⟩ k => ⟨o, es, ep, k o ho, r⟩⟩
theorem nd_ok {h' : Heap} {a : Addr} {H' : Hp} {xs : List (NestedKey × Addr × V)} {ys : List (NestedKey × Addr × Value)} (r : NdX xs ys) (d : h'.DictOfH (NK X) a ys) : ObjOk X.prog X.w H' h' a (NDo X.w a xs) := by
  obtain ⟨o, es, ep, ho, hc, hd, he, _, _⟩ := d
  refine ⟨⟨o, es, ep, ho, hc, hd, ?_⟩, ⟨o, ho⟩, fun h1 h2 ⟨o, es, ep, ho, r⟩ k => ⟨o, es, ep, k o ho, r⟩⟩
  rw [he]
  exact ndE_of r
/-! ### tables -/
theorem look_at {K : PySem.W.Frag} {mg : Str → Option Value} {ι Z : List Addr} {k : NestedKey} : ∀ {kvs : List (NestedKey × D)} {xs : List (NestedKey × Addr × V)} {ys : List (NestedKey × Addr × Value)}, Paired (NdK K H) kvs xs → NdX xs ys → Rps K mg ι Z H (kvs.map (·.2)) (xs.map (·.2.2)) →
    (∀ d, lookN kvs k = some d → ∃ v b u, atKey ys k = some (b, u) ∧ RelV v u ∧ Rp K mg ι Z H d v) ∧ (lookN kvs k = none → atKey ys k = none) := by
  intro kvs xs ys q r rr
  induction q generalizing ys with
  | nil => cases r; exact ⟨fun d h => (by cases h), fun _ => rfl⟩
  | @cons p x ps xs h t ih =>
    cases r with
    | @cons _ y _ ys r1 r2 =>
      obtain ⟨v, vs, e, g1, g2⟩ := rr
      cases e
      obtain ⟨i1, i2⟩ := ih r2 g2
      have hk : y.1 = p.1 := r1.1.trans h.1
      by_cases e : p.1 = k
      · have e1 : lookN (p :: ps) k = some p.2 := by simp [lookN, e]
        have e2 : atKey (y :: ys) k = some y.2 := by simp [atKey, hk, e]
        rw [e1, e2]
        exact ⟨fun d hd => by cases hd; exact ⟨x.2.2, y.2.1, y.2.2, rfl, r1.2.2, g1⟩, fun z => by cases z⟩
      · have e1 : lookN (p :: ps) k = lookN ps k := by simp [lookN, e]
        have e2 : atKey (y :: ys) k = atKey ys k := by
          have : ¬ y.1 = k := by rw [hk]; exact e
          simp [atKey, this]
        rw [e1, e2]
        exact ⟨i1, i2⟩
theorem nkT_of {d : D} {k : NestedKey} (h : nkT d = some k) : ∃ ds, d = .tup ds ∧ nkD d = some k ∧ k.depth ≤ 8 := by
  unfold nkT at h
  split at h
  · simp only [Option.bind_eq_some_iff] at h
    obtain ⟨k', h1, h2⟩ := h
    split at h2 <;> cases h2
    exact ⟨_, rfl, h1, by assumption⟩
  · cases h
/-- the key's own address -/
theorem key_ref {K : PySem.W.Frag} {mg : Str → Option Value} {ι Z : List Addr} {d : D} {k : NestedKey} {v : V} (h : nkT d = some k) (r : Rp K mg ι Z H d v) : ∃ b, v = .ref b ∧ KeyAt K H k (.ref b) ∧ k.depth ≤ 8 := by
  obtain ⟨ds, rfl, h1, h2⟩ := nkT_of h
  have ka := KeyAt.of h1 r
  obtain ⟨b, vs, rfl, _⟩ := r
  exact ⟨b, rfl, ka, h2⟩
theorem nk_room {A : Around} (hu : A.units + 9 < cLine) : A.in1.units + 8 < cLine := by
  show A.units + 1 + 8 < cLine
  omega
end
section
variable {X : Cx} {T : TW} {pins : List (Addr × Obj)} {σ : L2.St} {H : Hp} {s : Shared} {ι Z : List Addr} {μ : List Mo} {n : Nat} {kvs : List (NestedKey × D)} {a : Addr} {A : Around} {E : Value → Shared → Prop}
/-- a dict among the changeable things -/
theorem nd_mem (hw : T.w = X.w) (g : RG X.K X.mg T ι Z H μ) (hm : μ[n]? = some (.dcn kvs)) (ha : ι[n]? = some a) : ∃ xs, H a = some (NDo X.w a xs) ∧ (a == sysModules) = false ∧ (kvs.map (·.1)).Nodup ∧ Paired (NdK X.K H) kvs xs ∧ Rps X.K X.mg ι Z H (kvs.map (·.2)) (xs.map (·.2.2)) := by
  obtain ⟨b, hb, h⟩ := g.mem n _ hm
  rw [ha] at hb
  cases hb
  obtain ⟨xs, h1, h2⟩ := h
  rw [hw] at h1
  exact ⟨xs, h1, h2⟩
theorem nd_in (hw : T.w = X.w) (hu : A.units + 9 < cLine) (I : Inv X pins σ H s) (g : RG X.K X.mg T ι Z H μ) (hm : μ[n]? = some (.dcn kvs)) (ha : ι[n]? = some a) {d : D} {k : NestedKey} {v : V} {u : Value} (hk : nkT d = some k) (r : Rp X.K X.mg ι Z H d v) (rv : RelV v u) {Q : Value → Shared → Prop} :
    ((∀ s', Inv X pins σ H s' → Q (.bool (lookN kvs k).isSome) s') → wpAny (model X.prog X.w) A (compareOp .In u (.ref a)) Q E s) ∧
    ((∀ s', Inv X pins σ H s' → Q (.bool (!(lookN kvs k).isSome)) s') → wpAny (model X.prog X.w) A (compareOp .NotIn u (.ref a)) Q E s) := by
  obtain ⟨xs, h1, h2, h3, h4, h5⟩ := nd_mem hw g hm ha
  obtain ⟨ys, r1, dd⟩ := nd_dict I h1 h3 h4
  obtain ⟨b, rfl, ka, kd⟩ := key_ref hk r
  obtain rfl : u = Value.ref b := rv
  have his : (NK X).is s.heap k b := ⟨key_is I k _ _ ka rfl, kd⟩
  obtain ⟨l1, l2⟩ := look_at (k := k) h4 r1 h5
  have e : (atKey ys k).isSome = (lookN kvs k).isSome := by
    cases q : lookN kvs k with
    | none => rw [l2 q]; rfl
    | some d => obtain ⟨v, b, u, e, _⟩ := l1 d q; rw [e]; rfl
  refine ⟨fun q => wpAny_in_heap (knd := NK X) (nk_room hu) his h2 dd ?_, fun q => wpAny_notIn_heap (knd := NK X) (nk_room hu) his h2 dd ?_⟩
  · rw [e]; exact q _ (I.tok _)
  · rw [e]; exact q _ (I.tok _)
theorem nd_getItem (hw : T.w = X.w) (hu : A.units + 9 < cLine) (I : Inv X pins σ H s) (g : RG X.K X.mg T ι Z H μ) (hm : μ[n]? = some (.dcn kvs)) (ha : ι[n]? = some a) {d x : D} {k : NestedKey} {v : V} {u : Value} (hk : nkT d = some k) (r : Rp X.K X.mg ι Z H d v) (rv : RelV v u) (hl : lookN kvs k = some x) {Q : Value → Shared → Prop}
    (h : ∀ y u' s', Inv X pins σ H s' → RelV y u' → Rp X.K X.mg ι Z H x y → Q u' s') : wpAny (model X.prog X.w) A (getItem (.ref a) u) Q E s := by
  obtain ⟨xs, h1, h2, h3, h4, h5⟩ := nd_mem hw g hm ha
  obtain ⟨ys, r1, dd⟩ := nd_dict I h1 h3 h4
  obtain ⟨b, rfl, ka, kd⟩ := key_ref hk r
  obtain rfl : u = Value.ref b := rv
  have his : (NK X).is s.heap k b := ⟨key_is I k _ _ ka rfl, kd⟩
  obtain ⟨l1, l2⟩ := look_at (k := k) h4 r1 h5
  obtain ⟨y, c, u', e, e2, e3⟩ := l1 x hl
  exact wpAny_getItem_heap (knd := NK X) (nk_room hu) his dd e (h y u' _ (I.tok _) e2 e3)
theorem nd_get (hw : T.w = X.w) (hu : A.units + 9 < cLine) (I : Inv X pins σ H s) (g : RG X.K X.mg T ι Z H μ) (hm : μ[n]? = some (.dcn kvs)) (ha : ι[n]? = some a) {d x : D} {k : NestedKey} {v y : V} {u uy : Value} (hk : nkT d = some k) (r : Rp X.K X.mg ι Z H d v) (rv : RelV v u) (rx : Rp X.K X.mg ι Z H x y) (ry : RelV y uy) {Q : Value → Shared → Prop}
    (h : ∀ y u' s', Inv X pins σ H s' → RelV y u' → Rp X.K X.mg ι Z H ((lookN kvs k).getD x) y → Q u' s') : wpAny (model X.prog X.w) A (call (.builtin "dict.get") [.ref a, u, uy]) Q E s := by
  obtain ⟨xs, h1, h2, h3, h4, h5⟩ := nd_mem hw g hm ha
  obtain ⟨ys, r1, dd⟩ := nd_dict I h1 h3 h4
  obtain ⟨b, rfl, ka, kd⟩ := key_ref hk r
  obtain rfl : u = Value.ref b := rv
  have his : (NK X).is s.heap k b := ⟨key_is I k _ _ ka rfl, kd⟩
  obtain ⟨l1, l2⟩ := look_at (k := k) h4 r1 h5
  refine call_meetsIn PySem.F.slot_dict_get dd.typeIs PySem.F.entry_dict_get (PySem.F.args_dict_get_3 _ _ _) (meetsH_dict_get_default (NK X) a b h2 uy) ⟨nk_room hu, k, ys, his, dd, ?_⟩
  cases q : lookN kvs k with
  | none =>
    rw [l2 q]
    exact h y _ _ (I.tok _) ry (by rw [q]; exact rx)
  | some d =>
    obtain ⟨z, c, u', e, e2, e3⟩ := l1 d q
    rw [e]
    exact h z _ _ (I.tok _) e2 (by rw [q]; exact e3)
end
/-! ### a dict is changed -/
section
variable {K : PySem.W.Frag} {mg : Str → Option Value} {ι Z : List Addr} {H : Hp} {k : NestedKey} {b : Addr} {v : V} {d : D}
def putX (xs : List (NestedKey × Addr × V)) (k : NestedKey) (b : Addr) (v : V) : List (NestedKey × Addr × V) := if (xs.any fun x => decide (x.1 = k)) = true then xs.map (fun x => if x.1 = k then (x.1, x.2.1, v) else x) else xs ++ [(k, b, v)]
theorem lookN_any : ∀ (kvs : List (NestedKey × D)), (lookN kvs k).isSome = kvs.any fun p => decide (p.1 = k)
  | [] => rfl
  | p :: ps => by
    rw [List.any_cons]
    by_cases e : p.1 = k
    · simp [lookN, e]
    · have : lookN (p :: ps) k = lookN ps k := by simp [lookN, e]
      rw [this, decide_eq_false e, Bool.false_or]
      exact lookN_any ps
theorem any_X : ∀ {kvs : List (NestedKey × D)} {xs : List (NestedKey × Addr × V)}, Paired (NdK K H) kvs xs → (xs.any fun x => decide (x.1 = k)) = kvs.any fun p => decide (p.1 = k)
  | _, _, .nil => rfl
  | _, _, .cons h t => by rw [List.any_cons, List.any_cons, any_X t, h.1]
theorem any_Y : ∀ {xs : List (NestedKey × Addr × V)} {ys : List (NestedKey × Addr × Value)}, NdX xs ys → (atKey ys k).isSome = xs.any fun x => decide (x.1 = k)
  | _, _, .nil => rfl
  | _, _, .cons (a := x) (b := y) (l₂ := ys) h t => by
    rw [List.any_cons]
    by_cases e : x.1 = k
    · have : y.1 = k := h.1.trans e
      simp [atKey, e, this]
    · have e2 : ¬ y.1 = k := fun z => e (h.1.symm.trans z)
      have : atKey (y :: ys) k = atKey ys k := by simp [atKey, e2]
      rw [this, decide_eq_false e, Bool.false_or]
      exact any_Y t
theorem putX_ok {kvs : List (NestedKey × D)} {xs : List (NestedKey × Addr × V)} (hk : KeyAt K H k (.ref b)) (kd : k.depth ≤ 8) (hd : Rp K mg ι Z H d v) (h : Paired (NdK K H) kvs xs) (r : Rps K mg ι Z H (kvs.map (·.2)) (xs.map (·.2.2))) :
    Paired (NdK K H) (putN kvs k d) (putX xs k b v) ∧ Rps K mg ι Z H ((putN kvs k d).map (·.2)) ((putX xs k b v).map (·.2.2)) := by
  unfold putN putX
  rw [lookN_any, any_X h]
  split
  · rename_i hany; clear hany
    induction h with
    | nil => exact ⟨.nil, r⟩
    | @cons p x ps xs h t ih =>
      obtain ⟨w, ws, e, g1, g2⟩ := r
      cases e
      obtain ⟨i1, i2⟩ := ih g2
      rw [List.map_cons, List.map_cons]
      by_cases e : p.1 = k
      · have e2 : x.1 = k := h.1.trans e
        rw [if_pos e, if_pos e2]
        exact ⟨.cons h i1, ⟨v, _, rfl, hd, i2⟩⟩
      · have e2 : ¬ x.1 = k := fun z => e (h.1.symm.trans z)
        rw [if_neg e, if_neg e2]
        exact ⟨.cons h i1, ⟨_, _, rfl, g1, i2⟩⟩
  · refine ⟨Paired.snoc h ⟨rfl, kd, hk⟩, ?_⟩
    rw [List.map_append, List.map_append]
    exact Rps.append r ⟨v, [], rfl, hd, rfl⟩
theorem putY_ok {xs : List (NestedKey × Addr × V)} {ys : List (NestedKey × Addr × Value)} {u : Value} (rv : RelV v u) (h : NdX xs ys) : NdX (putX xs k b v) (storedH ys k b u) := by
  unfold putX storedH
  rw [any_Y h]
  split
  · unfold NdX at h ⊢
    rename_i hany; clear hany
    induction h with
    | nil => exact .nil
    | @cons x y xs ys h t ih =>
      rw [List.map_cons, List.map_cons]
      refine .cons ?_ ih
      by_cases e : x.1 = k
      · rw [if_pos e, putAt, if_pos (h.1.trans e)]
        exact ⟨h.1, h.2.1, rv⟩
      · rw [if_neg e, putAt, if_neg (fun z => e (h.1.symm.trans z))]
        exact h
  · exact Paired.snoc h ⟨rfl, rfl, rv⟩
theorem putN_keys (kvs : List (NestedKey × D)) : (putN kvs k d).map (·.1) = if (lookN kvs k).isSome = true then kvs.map (·.1) else kvs.map (·.1) ++ [k] := by
  unfold putN
  split
  · rw [List.map_map]
    refine List.map_congr_left fun p _ => ?_
    show (if p.1 = k then (p.1, d) else p).1 = p.1
    split <;> rfl
  · rw [List.map_append]; rfl
theorem putN_nodup {kvs : List (NestedKey × D)} (h : (kvs.map (·.1)).Nodup) : ((putN kvs k d).map (·.1)).Nodup := by
  rw [putN_keys]
  split
  · exact h
  · rename_i q
    rw [List.nodup_append]
    refine ⟨h, by simp, fun x hx y hy => ?_⟩
    rw [List.mem_singleton.mp hy]
    intro e
    subst e
    refine q ?_
    rw [lookN_any, List.any_eq_true]
    obtain ⟨p, hp, rfl⟩ := List.mem_map.mp hx
    exact ⟨p, hp, by simp⟩
end
section
variable {X : Cx} {T : TW} {pins : List (Addr × Obj)} {σ : L2.St} {H : Hp} {s : Shared} {ι Z : List Addr} {μ : List Mo} {n : Nat} {kvs : List (NestedKey × D)} {a : Addr} {A : Around} {E : Value → Shared → Prop}
theorem nd_setItem (hw : T.w = X.w) (hu : A.units + 9 < cLine) (I : Inv X pins σ H s) (g : RG X.K X.mg T ι Z H μ) (hm : μ[n]? = some (.dcn kvs)) (ha : ι[n]? = some a) {d x : D} {k : NestedKey} {v y : V} {u uy : Value} (hk : nkT d = some k) (r : Rp X.K X.mg ι Z H d v) (rv : RelV v u) (rx : Rp X.K X.mg ι Z H x y) (ry : RelV y uy) (hz : kvs.length ≤ sizeLine) {Q : Unit → Shared → Prop}
    (h : ∀ xs' s', Inv X pins σ (upd H a (NDo X.w a xs')) s' → Paired (NdK X.K H) (putN kvs k x) xs' → Rps X.K X.mg ι Z H ((putN kvs k x).map (·.2)) (xs'.map (·.2.2)) → Q () s') : wpAny (model X.prog X.w) A (setItem (.ref a) u uy) Q E s := by
  obtain ⟨xs, h1, h2, h3, h4, h5⟩ := nd_mem hw g hm ha
  obtain ⟨ys, r1, dd⟩ := nd_dict I h1 h3 h4
  obtain ⟨b, rfl, ka, kd⟩ := key_ref hk r
  obtain rfl : u = Value.ref b := rv
  have his : (NK X).is s.heap k b := ⟨key_is I k _ _ ka rfl, kd⟩
  obtain ⟨p1, p2⟩ := putX_ok (b := b) ka kd rx h4 h5
  refine wpAny_setItem_heap (knd := NK X) (hsz := by rw [← Paired.length r1, ← Paired.length h4]; exact hz) (nk_room hu) his dd fun h' dd' hs => h _ _ ?_ p1 p2
  have he : ∃ q, h'.get? a = some q := let ⟨q, _, _, hq, _⟩ := dd'; ⟨q, hq⟩
  exact d_write I (by rw [h1]; exact True.intro) hs he (nd_ok (putY_ok ry r1) dd')
end
end Mi
set_option Elab.async false
set_option linter.all false
set_option maxRecDepth 100000
set_option maxHeartbeats 4000000
/-! Mw: more operators: tuple * int of any count, order of tuples, in, is. -/
namespace Mi
open PySem PySem.Spec PyProof.Rows L2
theorem tuple_mul_same (l : Addr) (items : Array Value) (n : Nat) (dd : Option Addr) (sl : Array (Option Value)) (x : Int) (u : Tok) (c0 : (decide (x < -(2 ^ 63)) || decide (x ≥ 2 ^ 63)) = false) (c1 : (items.isEmpty || x == 1) = true) :
    Meets (Builtin.«tuple.__mul__» ⟨[.ref l, .int x u], []⟩) (fun _ R s => s.heap.get? l = some { cls := .type "tuple", dict := dd, data := .seq items n, slots := sl } ∧ R (.ok (.ret (Value.ref l))) s) :=
  .of_wp fun prog w A R s h => by
    obtain ⟨hp, g, d, tk, os⟩ := s
    obtain ⟨hl, h⟩ := h
    have f1 := AutoSeq1.idx_int
    wp_walk using wpAny_loadPart' hl
    repeat (first
      | (refine wpAny_ite_false (decide_eq_false (by rw [c0]; exact Bool.false_ne_true)) ?_; wp_walk using wpAny_loadPart' hl)
      | (refine wpAny_ite_true (decide_eq_true c1) ?_; wp_walk using wpAny_loadPart' hl))
    exact ⟨_, rfl, h⟩
theorem tuple_mul_none (l : Addr) (items : Array Value) (n : Nat) (dd : Option Addr) (sl : Array (Option Value)) (x : Int) (u : Tok) (c0 : (decide (x < -(2 ^ 63)) || decide (x ≥ 2 ^ 63)) = false) (c1 : (items.isEmpty || x == 1) = false) (c2 : (decide (x ≤ 0) || items.isEmpty) = true) :
    Meets (Builtin.«tuple.__mul__» ⟨[.ref l, .int x u], []⟩) (fun _ R s => s.heap.get? l = some { cls := .type "tuple", dict := dd, data := .seq items n, slots := sl } ∧
      R (.ok (.ret (Value.ref s.heap.objs.size))) { s with heap := s.heap.push { cls := Value.type "tuple", data := Data.seq #[] }, toks := s.toks }) :=
  .of_wp fun prog w A R s h => by
    obtain ⟨hp, g, d, tk, os⟩ := s
    obtain ⟨hl, h⟩ := h
    have f1 := AutoSeq1.idx_int
    wp_walk using wpAny_loadPart' hl
    repeat (first
      | (refine wpAny_ite_false (decide_eq_false (by rw [c0]; exact Bool.false_ne_true)) ?_; wp_walk using wpAny_loadPart' hl)
      | (refine wpAny_ite_false (decide_eq_false (by rw [c1]; exact Bool.false_ne_true)) ?_; wp_walk using wpAny_loadPart' hl)
      | (refine wpAny_ite_true (decide_eq_true c2) ?_; wp_walk using wpAny_loadPart' hl))
    exact ⟨_, rfl, h⟩
section
variable {X : Cx}
/-- t * k of any count *-/
def rRepA (K : PySem.W.Frag) : R2 := fun x y H Q => ∃ l k xs, x = .ref l ∧ y = .int k ∧ SqT K H l xs ∧ -(2 ^ 63) ≤ k ∧ k ≤ 1000 ∧ xs.length ≤ 1000 ∧
  ((xs = [] ∨ k = 1) → Q (.ref l) H) ∧ (xs ≠ [] → k ≠ 1 → ∀ p, H p = none → Q (.ref p) (upd H p (.tup (List.replicate k.toNat xs).flatten)))
theorem op_repA : OpR X (binaryOp .Mult) (rRepA X.K) := by
  intro pins s σ H x y v u Q I rx ry h
  obtain ⟨l, k, xs, rfl, rfl, hT, h1, h2, hz, q1, q2⟩ := h
  by_cases hb : xs ≠ [] ∧ 2 ≤ k
  · exact op_repT pins s σ H _ _ v u Q I rx ry ⟨l, k, xs, rfl, rfl, hT, hb.1, hb.2, h2, hz, q2 hb.1 (by omega)⟩
  · cases rx
    obtain ⟨t, rfl⟩ := ry
    obtain ⟨its, r, ⟨⟨cls, dd, data, sl⟩, ho, hc, n, hd⟩, hs⟩ := I.tuple hT
    simp only at hc hd
    subst hc hd
    have hle : its.length = xs.length := r.length.symm
    have c0 : (decide (k < -(2 ^ 63)) || decide (k ≥ 2 ^ 63)) = false := by
      rw [decide_eq_false (by omega), decide_eq_false (by omega)] <;> rfl
    by_cases h3 : xs = [] ∨ k = 1
    · have c1 : (its.toArray.isEmpty || k == 1) = true := by
        rcases h3 with e | e
        · subst e
          have : its = [] := List.eq_nil_of_length_eq_zero hle
          subst this; rfl
        · subst e; simp
      exact wpAny_binaryOp_repeat_ref (T := "tuple") (U := "int") (by decide) ⟨_, ho, rfl⟩ (fun s' => typeIs_int s' k t) noFill_tuple_mul F.fills_int_mul F.slot_int_rmul repeat_tuple F.slot_int_index.lookup
        (call_meets F.slot_int_rmul (typeIs_int s k t) F.entry_int_rmul (F.args_int_rmul_2 _ _) (int_rmul_tuple k t l its.toArray n dd sl)
          ⟨ho, rfl, ⟨_, ho, rfl⟩, call_meets F.slot_tuple_mul ⟨_, ho, rfl⟩ F.entry_tuple_mul (F.args_tuple_mul_2 _ _) (tuple_mul_same l its.toArray n dd sl k t c0 c1) ⟨ho, .ref l, H, I, rfl, q1 h3⟩⟩)
    · have hne : xs ≠ [] := fun e => h3 (.inl e)
      have hk1 : k ≠ 1 := fun e => h3 (.inr e)
      have hk : k ≤ 0 := by
        have : ¬ 2 ≤ k := fun z => hb ⟨hne, z⟩
        omega
      have hi : its.toArray.isEmpty = false := by
        cases its with
        | nil => exact absurd (List.eq_nil_of_length_eq_zero hle.symm) hne
        | cons a b => rfl
      have c1 : (its.toArray.isEmpty || k == 1) = false := by
        rw [hi, Bool.false_or]
        exact beq_eq_false_iff_ne.mpr hk1
      have c2 : (decide (k ≤ 0) || its.toArray.isEmpty) = true := by rw [decide_eq_true hk]; rfl
      have ez : List.replicate k.toNat xs = [] := by
        rw [show k.toNat = 0 by omega]; rfl
      have q3 := q2 hne hk1
      rw [ez] at q3
      exact wpAny_binaryOp_repeat_ref (T := "tuple") (U := "int") (by decide) ⟨_, ho, rfl⟩ (fun s' => typeIs_int s' k t) noFill_tuple_mul F.fills_int_mul F.slot_int_rmul repeat_tuple F.slot_int_index.lookup
        (call_meets F.slot_int_rmul (typeIs_int s k t) F.entry_int_rmul (F.args_int_rmul_2 _ _) (int_rmul_tuple k t l its.toArray n dd sl)
          ⟨ho, rfl, ⟨_, ho, rfl⟩, call_meets F.slot_tuple_mul ⟨_, ho, rfl⟩ F.entry_tuple_mul (F.args_tuple_mul_2 _ _) (tuple_mul_none l its.toArray n dd sl k t c0 c1 c2)
            ⟨ho, .ref s.heap.objs.size, _, I.laid (t' := s.toks) (o := .tup []) (fun b ob q => Heap.get?_push_of_some _ q) (Nat.le_refl _) ⟨Nat.zero_le _, [], .nil, IsTup.new _ _⟩, rfl, q3 _ (I.hok.fresh (Nat.le_refl _))⟩⟩)
end
section
variable {X : Cx} {T : TW}
theorem mulOk_ok {i j : Int} (h : mulOk i j = true) : CMul i j ∨ CMulW i j := by
  unfold mulOk small64 at h
  simp only [Bool.or_eq_true, decide_eq_true_eq] at h
  rcases h with (h | h) | h
  · exact .inl (.inl h)
  · exact .inl (.inr h)
  · exact .inr h
theorem Rps.rep {K : PySem.W.Frag} {mg : Str → Option Value} {ι Z : List Addr} {H : Hp} {ds : List D} {vs : List V} (h : Rps K mg ι Z H ds vs) : ∀ n : Nat, Rps K mg ι Z H (List.replicate n ds).flatten (List.replicate n vs).flatten
  | 0 => rfl
  | n + 1 => by
    rw [List.replicate_succ, List.replicate_succ, List.flatten_cons, List.flatten_cons]
    exact h.append (Rps.rep h n)
theorem mulOk_str {x : Str} {k : Int} (h1 : 2 ≤ k) (h2 : k ≤ 1000) (h3 : x.length ≤ 1000) : MulOk x k := by
  refine ⟨by simp; omega, fun _ _ => ?_, fun _ _ => ?_⟩
  · have h4 : (1000 : Int) ≤ (2 ^ 63 - 1) / k := by
      rw [Int.le_ediv_iff_mul_le (by omega)]
      have : (2 ^ 63 : Int) = 9223372036854775808 := by decide
      omega
    omega
  · have h4 : x.length * k.toNat ≤ 1000 * 1000 := Nat.mul_le_mul h3 (by omega)
    unfold Builtin.Str.tooLong
    rw [sizeLine_eq]
    simp
    omega
theorem ok_mul : OpR X (binaryOp .Mult) (r2 X.K X.mg T .mul) := by
  intro pins s σ H x y v u Q I rx ry h
  obtain ⟨ι, Z, μ, d, e, r, g, hd, he, ho, q⟩ := h
  simp only [Op.do, mulD] at ho
  split at ho
  · split at ho <;> cases ho
    rename_i hc
    rcases mulOk_ok hc with hc | hc
    · exact op_mul pins s σ H x y v u Q I rx ry ⟨_, _, hd, he, hc, q ι _ H Ext.refl g rfl⟩
    · exact op_mulW pins s σ H x y v u Q I rx ry ⟨_, _, hd, he, hc, q ι _ H Ext.refl g rfl⟩
  · cases ho
    have hd' : x = V.int _ := hd
    have he' : y = V.bl _ := he
    subst hd' he'
    cases ry
    obtain ⟨t', rfl⟩ := rx
    exact PySem.IntBool.mul_int_bool ⟨.int _, H, I.tok _, ⟨_, rfl⟩, q ι _ H Ext.refl g rfl⟩
  · split at ho <;> cases ho
    rename_i hc
    simp only [Bool.and_eq_true, decide_eq_true_eq] at hc
    have hd' : x = V.str _ := hd
    have he' : y = V.int _ := he
    subst hd' he'
    obtain ⟨t, rfl⟩ := rx
    obtain ⟨t', rfl⟩ := ry
    exact SB.mul (mulOk_str hc.1.1 hc.1.2 hc.2) fun t' k => ⟨.str _, H, I.tok _, ⟨_, rfl⟩, q ι _ H Ext.refl g rfl⟩
  · rename_i xs k
    split at ho <;> cases ho
    rename_i hc
    simp only [Bool.and_eq_true, decide_eq_true_eq] at hc
    obtain ⟨a, vs, rfl, h1, h2⟩ := hd
    have hl := h2.length
    refine op_repA pins s σ H _ _ v u Q I rx ry ⟨a, k, vs, rfl, he, h1.sq, hc.1.1, hc.1.2, by omega, fun z => ?_, fun z1 z2 p hp => q ι _ _ (ext_fresh hp) (g.fresh hp) (Rp.newT hp (h2.rep _))⟩
    rcases z with z | z
    · have := h2.nil_iff.mp z
      subst this
      refine q ι _ H Ext.refl g ⟨a, vs, rfl, h1, ?_⟩
      rw [show (List.replicate k.toNat ([] : List D)).flatten = [] by simp]
      exact h2
    · subst z
      refine q ι _ H Ext.refl g ⟨a, vs, rfl, h1, ?_⟩
      rw [show (List.replicate (1 : Int).toNat xs).flatten = xs by simp]
      exact h2
  · rename_i xs k
    split at ho <;> cases ho
    rename_i hc
    simp only [Bool.and_eq_true, decide_eq_true_eq] at hc
    obtain ⟨a, vs, rfl, ⟨h1, h3⟩, h2⟩ := hd
    have hl := h2.length
    exact op_rep pins s σ H _ _ v u Q I rx ry ⟨a, k, vs, rfl, he, h1, hc.1.1, hc.1.2, by rw [← hl]; exact hc.2, fun p hp => q ι _ _ (ext_fresh hp) (g.fresh hp) (Rp.newL g hp (h2.rep _))⟩
  · cases ho
/-! ### order -/
theorem lexLt_eq : ∀ (xs ys : List Int), HT.lexLt xs ys = lexC .lt xs ys
  | [], [] => rfl
  | [], _ :: _ => rfl
  | _ :: _, [] => rfl
  | x :: xs, y :: ys => by
    rw [HT.lexLt_cons, lexC, lexLt_eq xs ys]; rfl
theorem lexAt_eq (c : Cm) (ok : ∀ i j, c.int i j = (match c with | .le => decide (i ≤ j) | .gt => decide (j < i) | .ge => decide (j ≤ i) | .lt => decide (i < j))) : ∀ (xs ys : List Int),
    Ob.lexAt (fun j => decide (xs.getD j 0 = ys.getD j 0)) (fun j => c.int (xs.getD j 0) (ys.getD j 0)) (c.int xs.length ys.length) 0 (min xs.length ys.length) = lexC c xs ys := by
  have gen : ∀ (k : Nat) (xs ys : List Int) (f g : Nat → Bool) (z : Bool) (i : Nat), (∀ j, f (i + j) = decide (xs.getD j 0 = ys.getD j 0)) → (∀ j, g (i + j) = c.int (xs.getD j 0) (ys.getD j 0)) → z = c.int xs.length ys.length → k = min xs.length ys.length →
      Ob.lexAt f g z i k = lexC c xs ys := by
    intro k
    induction k with
    | zero =>
      intro xs ys f g z i hf hg hz hk
      rw [Ob.lexAt_zero, hz]
      cases xs with
      | nil =>
        cases ys with
        | nil => rfl
        | cons y ys => cases c <;> simp [lexC, Cm.int] <;> omega
      | cons x xs =>
        cases ys with
        | nil => cases c <;> simp [lexC, Cm.int] <;> omega
        | cons y ys => simp only [List.length_cons] at hk; omega
    | succ k ih =>
      intro xs ys f g z i hf hg hz hk
      cases xs with
      | nil => simp at hk
      | cons x xs =>
        cases ys with
        | nil => simp at hk
        | cons y ys =>
          rw [Ob.lexAt_succ]
          have h0 := hf 0
          have g0 := hg 0
          simp only [Nat.add_zero, List.getD_cons_zero] at h0 g0
          rw [h0, g0, lexC]
          by_cases e : x = y
          · simp only [e, decide_true, if_true]
            refine ih xs ys f g z (i + 1) (fun j => ?_) (fun j => ?_) ?_ ?_
            · have := hf (j + 1)
              simp only [List.getD_cons_succ] at this
              rw [← this]; congr 1; omega
            · have := hg (j + 1)
              simp only [List.getD_cons_succ] at this
              rw [← this]; congr 1; omega
            · rw [hz]
              cases c <;> simp [Cm.int]
            · simp only [List.length_cons] at hk; omega
          · simp [e]
  intro xs ys
  exact gen _ xs ys _ _ _ 0 (fun j => by rw [Nat.zero_add]) (fun j => by rw [Nat.zero_add]) rfl rfl
theorem at_int {its : List Value} {ns : List Int} (i1 : IntsAre its ns) : ∀ j (h1 : j < its.toArray.size), ∃ t, its.toArray[j] = .int (ns.getD j 0) t :=
  fun j h1 => PyProof.Rows.IntsAre.int_at i1 _ _ (by simp at h1; simp [h1])
def Cm.op : Cm → CmpOp
  | .lt => .Lt
  | .le => .LtE
  | .gt => .Gt
  | .ge => .GtE
theorem cm_tup (c : Cm) (hu : X.A.units < cLine) {pins : List (Addr × Obj)} {s : Shared} {σ : L2.St} {H : Hp} {a b : Addr} {ns ms : List Int} {Q : VK} (I : Inv X pins σ H s) (ha : SqT X.K H a (ns.map V.int)) (hb : SqT X.K H b (ms.map V.int)) (q : Q (.bl (lexC c ns ms)) H) :
    wpAny (model X.prog X.w) X.A (compareOp c.op (.ref a) (.ref b)) (EP X pins σ Q) X.xe s := by
  obtain ⟨its, r1, p1, _⟩ := I.tuple ha
  obtain ⟨its2, r2, p2, _⟩ := I.tuple hb
  have i1 : IntsAre its ns := Vals.ints r1
  have i2 : IntsAre its2 ms := Vals.ints r2
  have e1 : its.toArray.size = ns.length := by rw [List.size_toArray]; exact i1.length
  have e2 : its2.toArray.size = ms.length := by rw [List.size_toArray]; exact i2.length
  have at1 := at_int i1
  have at2 := at_int i2
  have he : ∀ j (h1 : j < its.toArray.size) (h2 : j < its2.toArray.size), SeqAt.EqAt X.A.in1 s its.toArray[j] its2.toArray[j] (decide (ns.getD j 0 = ms.getD j 0)) := fun j h1 h2 => by
    obtain ⟨t, et⟩ := at1 j h1
    obtain ⟨t', et'⟩ := at2 j h2
    rw [et, et']
    have z : (ns.getD j 0 == ms.getD j 0) = decide (ns.getD j 0 = ms.getD j 0) := by
      by_cases q : ns.getD j 0 = ms.getD j 0
      · rw [decide_eq_true q]; exact beq_iff_eq.mpr q
      · rw [decide_eq_false q]; exact beq_eq_false_iff_ne.mpr q
    rw [← z]
    exact SeqAt.EqAt.int_int _ _ _ _
  cases c with
  | lt =>
    rw [← lexLt_eq] at q
    exact op_ltT hu pins s σ H (.ref a) (.ref b) _ _ Q I rfl rfl ⟨a, b, ns, ms, rfl, rfl, ha, hb, q⟩
  | le =>
    have R := Ob.RcOp.tuples_le (A := X.A) (s := s) (e := fun j => decide (ns.getD j 0 = ms.getD j 0)) (r := fun j => Cm.int .le (ns.getD j 0) (ms.getD j 0)) p1 p2 hu he (fun j h1 h2 _ => by
      obtain ⟨t, et⟩ := at1 j h1
      obtain ⟨t', et'⟩ := at2 j h2
      rw [et, et']
      exact Ob.RcOp.le_int _ _ _ _)
    rw [e1, e2] at R
    have el := lexAt_eq .le (fun _ _ => rfl) ns ms
    rw [show Cm.int .le (ns.length : Int) (ms.length : Int) = decide (ns.length ≤ ms.length) by simp [Cm.int]] at el
    rw [el] at R
    have z : wpAny (model X.prog X.w) X.A (compareOp .LtE (.ref a) (.ref b)) (EP X pins σ Q) X.xe s := R X.prog X.w X.xe (EP X pins σ Q) ⟨.bl _, H, I, rfl, q⟩
    exact z
  | gt =>
    have R := Ob.RcOp.tuples_gt (A := X.A) (s := s) (e := fun j => decide (ns.getD j 0 = ms.getD j 0)) (r := fun j => Cm.int .gt (ns.getD j 0) (ms.getD j 0)) p1 p2 hu he (fun j h1 h2 _ => by
      obtain ⟨t, et⟩ := at1 j h1
      obtain ⟨t', et'⟩ := at2 j h2
      rw [et, et']
      exact Ob.RcOp.gt_int _ _ _ _)
    rw [e1, e2] at R
    have el := lexAt_eq .gt (fun _ _ => rfl) ns ms
    rw [show Cm.int .gt (ns.length : Int) (ms.length : Int) = decide (ns.length > ms.length) by simp [Cm.int]] at el
    rw [el] at R
    have z : wpAny (model X.prog X.w) X.A (compareOp .Gt (.ref a) (.ref b)) (EP X pins σ Q) X.xe s := R X.prog X.w X.xe (EP X pins σ Q) ⟨.bl _, H, I, rfl, q⟩
    exact z
  | ge =>
    have R := Ob.RcOp.tuples_ge (A := X.A) (s := s) (e := fun j => decide (ns.getD j 0 = ms.getD j 0)) (r := fun j => Cm.int .ge (ns.getD j 0) (ms.getD j 0)) p1 p2 hu he (fun j h1 h2 _ => by
      obtain ⟨t, et⟩ := at1 j h1
      obtain ⟨t', et'⟩ := at2 j h2
      rw [et, et']
      exact Ob.RcOp.ge_int _ _ _ _)
    rw [e1, e2] at R
    have el := lexAt_eq .ge (fun _ _ => rfl) ns ms
    rw [show Cm.int .ge (ns.length : Int) (ms.length : Int) = decide (ns.length ≥ ms.length) by simp [Cm.int]] at el
    rw [el] at R
    have z : wpAny (model X.prog X.w) X.A (compareOp .GtE (.ref a) (.ref b)) (EP X pins σ Q) X.xe s := R X.prog X.w X.xe (EP X pins σ Q) ⟨.bl _, H, I, rfl, q⟩
    exact z
theorem ok_cm (c : Cm) (hu : X.A.units < cLine) : OpR X (compareOp c.op) (r2 X.K X.mg T (.cm c)) := by
  intro pins s σ H x y v u Q I rx ry h
  obtain ⟨ι, Z, μ, d, e, r, g, hd, he, ho, q⟩ := h
  simp only [Op.do, Option.map_eq_some_iff] at ho
  obtain ⟨b, ho, rfl⟩ := ho
  unfold cmD at ho
  split at ho
  · rename_i i j
    cases ho
    have hq := q ι (.bl (c.int i j)) H Ext.refl g rfl
    cases c with
    | lt => exact op_lt pins s σ H x y v u Q I rx ry ⟨i, j, hd, he, hq⟩
    | le => exact op_le pins s σ H x y v u Q I rx ry ⟨i, j, hd, he, hq⟩
    | gt => exact op_gt pins s σ H x y v u Q I rx ry ⟨i, j, hd, he, hq⟩
    | ge => exact op_ge pins s σ H x y v u Q I rx ry ⟨i, j, hd, he, hq⟩
  · rename_i xs ys
    simp only [Option.bind_eq_some_iff, Option.map_eq_some_iff] at ho
    obtain ⟨ns, e1, ms, e2, rfl⟩ := ho
    have e1 := intsOf_eq e1
    have e2 := intsOf_eq e2
    subst e1 e2
    obtain ⟨a, vs, rfl, h1, h2⟩ := hd
    obtain ⟨b, ws, rfl, h3, h4⟩ := he
    have := h2.ints_inv
    subst this
    have := h4.ints_inv
    subst this
    cases rx
    cases ry
    exact cm_tup c hu I h1.sq h3.sq (q ι _ H Ext.refl g rfl)
  · cases ho
/-! ### in, is -/
theorem tup_dp (hu : X.A.units + 65 < cLine) {pins : List (Addr × Obj)} {s : Shared} {σ : L2.St} {H : Hp} {x y : V} {v u : Value} {d : PyData} {ds : List PyData} {Q : VK} (I : Inv X pins σ H s) (rx : RelV x v) (ry : RelV y u) (hd : Dp X.K H x d) (he : Dp X.K H y (.tuple ds))
    (sd : SeqAt.shaped d = true) (se : SeqAt.shaped (.tuple ds) = true) : (Q (.bl (ds.any fun z => PyData.eqv z d)) H → wpAny (model X.prog X.w) X.A (compareOp .In v u) (EP X pins σ Q) X.xe s) ∧
      (Q (.bl (!ds.any fun z => PyData.eqv z d)) H → wpAny (model X.prog X.w) X.A (compareOp .NotIn v u) (EP X pins σ Q) X.xe s) := by
  obtain ⟨as, r1⟩ := Dp.reads I d x v hd rx
  obtain ⟨bs, r2⟩ := Dp.reads I (.tuple ds) y u he ry
  have hxs : PyData.canLayAll0 ds = true := SeqAt.canLay_of_shaped se
  have hroom : X.A.units + 1 + min (PyData.depthAll ds) d.depth < cLine := by
    have h1 := SeqAt.depth_of_shaped sd
    have h2 : min (PyData.depthAll ds) d.depth ≤ d.depth := Nat.min_le_right _ _
    omega
  exact ⟨fun q => SeqAt.in_tuple_reads r2 r1 hxs (SeqAt.canLay_of_shaped sd) hroom ⟨.bl _, H, I, rfl, q⟩, fun q => SeqAt.notIn_tuple_reads r2 r1 hxs (SeqAt.canLay_of_shaped sd) hroom ⟨.bl _, H, I, rfl, q⟩⟩
theorem in_both (hw : T.w = X.w) (hu : X.A.units + 65 < cLine) {pins : List (Addr × Obj)} {s : Shared} {σ : L2.St} {H : Hp} {x y : V} {v u : Value} {ι Z : List Addr} {μ : List Mo} {d e : D} {r : Bool} (I : Inv X pins σ H s) (rx : RelV x v) (ry : RelV y u)
    (g : RG X.K X.mg T ι Z H μ) (hd : Rp X.K X.mg ι Z H d x) (he : Rp X.K X.mg ι Z H e y) (ho : inD μ d e = some r) {Q : VK} :
    (Q (.bl r) H → wpAny (model X.prog X.w) X.A (compareOp .In v u) (EP X pins σ Q) X.xe s) ∧ (Q (.bl (!r)) H → wpAny (model X.prog X.w) X.A (compareOp .NotIn v u) (EP X pins σ Q) X.xe s) := by
  unfold inD at ho
  split at ho
  · rename_i n ez
    have ez := see_of ez (fun _ z => by cases z)
    subst ez
    split at ho
    · rename_i kvs hm
      simp only [Option.map_eq_some_iff] at ho
      obtain ⟨k, hk, rfl⟩ := ho
      obtain ⟨a, rfl, ha⟩ := he
      obtain rfl : u = Value.ref a := ry
      have h := nd_in (A := X.A) (E := X.xe) hw (by omega) I g hm ha hk hd rx (Q := EP X pins σ Q)
      exact ⟨fun q => h.1 fun s' I' => ⟨.bl _, H, I', rfl, q⟩, fun q => h.2 fun s' I' => ⟨.bl _, H, I', rfl, q⟩⟩
    · cases ho
  · rename_i z ez
    have ez := see_of ez (fun _ z => by cases z)
    subst ez
    split at ho
    · rename_i xx
      cases ho
      exact ⟨fun q => op_in_str pins s σ H x y v u Q I rx ry ⟨xx, z, hd, he, q⟩, fun q => op_notin_str pins s σ H x y v u Q I rx ry ⟨xx, z, hd, he, q⟩⟩
    · cases ho
  · rename_i ds ez
    have ez := see_of ez (fun _ z => by cases z)
    subst ez
    simp only [Option.bind_eq_some_iff] at ho
    obtain ⟨p, e1, qs, e2, ho⟩ := ho
    split at ho <;> cases ho
    rename_i hs
    rw [Bool.and_eq_true] at hs
    obtain ⟨a, vs, rfl, h1, h2⟩ := he
    exact tup_dp hu I rx ry (dp_see g hd e1) (.tup h1.sq (dps_of ds vs qs h2 e2)) hs.1 hs.2
  · rename_i ds ez
    simp only [Option.bind_eq_some_iff] at ho
    obtain ⟨p, e1, qs, e2, ho⟩ := ho
    split at ho <;> cases ho
    rename_i hs
    rw [Bool.and_eq_true] at hs
    obtain ⟨a, vs, rfl, h1, h2⟩ := see_lst g ez he
    exact ⟨fun q => op_inD hu pins s σ H x _ v u Q I rx ry ⟨p, qs, dp_see g hd e1, .lst (SqL.of h1) (dps_of ds vs qs h2 e2), hs.1, hs.2, q⟩,
      fun q => op_notInD hu pins s σ H x _ v u Q I rx ry ⟨p, qs, dp_see g hd e1, .lst (SqL.of h1) (dps_of ds vs qs h2 e2), hs.1, hs.2, q⟩⟩
  · cases ho
theorem ok_in (hw : T.w = X.w) (hu : X.A.units + 65 < cLine) : OpR X (compareOp .In) (r2 X.K X.mg T .in_) := by
  intro pins s σ H x y v u Q I rx ry h
  obtain ⟨ι, Z, μ, d, e, r, g, hd, he, ho, q⟩ := h
  simp only [Op.do, Option.map_eq_some_iff] at ho
  obtain ⟨b, ho, rfl⟩ := ho
  exact (in_both hw hu I rx ry g hd he ho).1 (q ι _ H Ext.refl g rfl)
theorem ok_nin (hw : T.w = X.w) (hu : X.A.units + 65 < cLine) : OpR X (compareOp .NotIn) (r2 X.K X.mg T .nin) := by
  intro pins s σ H x y v u Q I rx ry h
  obtain ⟨ι, Z, μ, d, e, r, g, hd, he, ho, q⟩ := h
  simp only [Op.do, Option.map_eq_some_iff] at ho
  obtain ⟨b, ho, rfl⟩ := ho
  exact (in_both hw hu I rx ry g hd he ho).2 (q ι _ H Ext.refl g rfl)
theorem is_shape {K : PySem.W.Frag} {mg : Str → Option Value} {ι Z : List Addr} {H : Hp} {d e : D} {x y : V} {r : Bool} (hd : Rp K mg ι Z H d x) (he : Rp K mg ι Z H e y) (h : isD d e = some r) :
    (∃ a b, x = .bl a ∧ y = .bl b ∧ r = decide (a = b)) ∨ (y = .non ∧ r = decide (x = .non)) := by
  unfold isD at h
  split at h <;> cases h
  · exact .inl ⟨_, _, hd, he, rfl⟩
  · exact .inr ⟨he, by rw [show x = V.non from hd]; rfl⟩
  · exact .inr ⟨he, by rw [show x = V.bl _ from hd]; rfl⟩
  · exact .inr ⟨he, by rw [show x = V.int _ from hd]; rfl⟩
  · exact .inr ⟨he, by rw [show x = V.str _ from hd]; rfl⟩
  · obtain ⟨a, vs, rfl, _⟩ := hd; exact .inr ⟨he, rfl⟩
  · obtain ⟨a, vs, rfl, _⟩ := hd; exact .inr ⟨he, rfl⟩
  · obtain ⟨a, rfl, _⟩ := hd; exact .inr ⟨he, rfl⟩
theorem ok_is : OpR X (compareOp .Is) (r2 X.K X.mg T .is_) := by
  intro pins s σ H x y v u Q I rx ry h
  obtain ⟨ι, Z, μ, d, e, r, g, hd, he, ho, q⟩ := h
  simp only [Op.do, Option.map_eq_some_iff] at ho
  obtain ⟨b, ho, rfl⟩ := ho
  rcases is_shape hd he ho with ⟨a, c, rfl, rfl, rfl⟩ | ⟨rfl, rfl⟩
  · exact op_is_bl pins s σ H _ _ v u Q I rx ry ⟨a, c, rfl, rfl, q ι _ H Ext.refl g rfl⟩
  · exact op_isN pins s σ H x _ v u Q I rx ry ⟨rfl, q ι _ H Ext.refl g rfl⟩
theorem ok_isn : OpR X (compareOp .IsNot) (r2 X.K X.mg T .isn) := by
  intro pins s σ H x y v u Q I rx ry h
  obtain ⟨ι, Z, μ, d, e, r, g, hd, he, ho, q⟩ := h
  simp only [Op.do, Option.map_eq_some_iff] at ho
  obtain ⟨b, ho, rfl⟩ := ho
  rcases is_shape hd he ho with ⟨a, c, rfl, rfl, rfl⟩ | ⟨rfl, rfl⟩
  · exact op_isnot_bl pins s σ H _ _ v u Q I rx ry ⟨a, c, rfl, rfl, q ι _ H Ext.refl g rfl⟩
  · exact op_notN pins s σ H x _ v u Q I rx ry ⟨rfl, q ι _ H Ext.refl g rfl⟩
end
end Mi
set_option Elab.async false
set_option linter.all false
set_option maxRecDepth 100000
set_option maxHeartbeats 4000000
/-! Mx: built-ins, items, slices. -/
namespace Mi
open PySem PySem.Spec PyProof.Rows L2
def rb (K : PySem.W.Frag) (mg : Str → Option Value) (T : TW) (f : Bi) : List V → Hp → VK → Prop := fun vs H Q => ∃ ι Z μ ds r, RG K mg T ι Z H μ ∧ Rps K mg ι Z H ds vs ∧ f.do μ ds = some r ∧
  ∀ ι' v H', Ext ι [] H ι' H' → RG K mg T ι' Z H' μ → Rp K mg ι' Z H' r v → Q v H'
section
variable {X : Cx} {T : TW}
def Bi.two : Bi → Bool
  | .min => true
  | .max => true
  | .isi => true
  | .split => true
  | .join => true
  | _ => false
theorem do1 {f : Bi} {μ : List Mo} {ds : List D} {r : D} (hf : f.two = false) (h : f.do μ ds = some r) : ∃ a, ds = [a] := by
  match ds, h with
  | [], h => simp [Bi.do] at h
  | [a], _ => exact ⟨a, rfl⟩
  | [a, b], h => cases f <;> first | (cases hf; done) | (simp [Bi.do] at h; done)
  | _ :: _ :: _ :: _, h => simp [Bi.do] at h
theorem do2 {f : Bi} {μ : List Mo} {ds : List D} {r : D} (hf : f.two = true) (h : f.do μ ds = some r) : ∃ a b, ds = [a, b] := by
  match ds, h with
  | [], h => simp [Bi.do] at h
  | [a], h => cases f <;> first | (cases hf; done) | (simp [Bi.do] at h; done)
  | [a, b], h => exact ⟨a, b, rfl⟩
  | _ :: _ :: _ :: _, h => simp [Bi.do] at h
theorem Rps.two {K : PySem.W.Frag} {mg : Str → Option Value} {ι Z : List Addr} {H : Hp} {d e : D} {vs : List V} (h : Rps K mg ι Z H [d, e] vs) : ∃ v w, vs = [v, w] ∧ Rp K mg ι Z H d v ∧ Rp K mg ι Z H e w := by
  obtain ⟨v, vs', rfl, h1, h2⟩ := h
  obtain ⟨w, rfl, h3⟩ := Rps.one h2
  exact ⟨v, w, rfl, h1, h3⟩
theorem cb_len : CallR X (.builtin "len") (rb X.K X.mg T .len) := by
  intro pins s σ H xs us Q I r h
  obtain ⟨ι, Z, μ, ds, o, g, hd, ho, q⟩ := h
  obtain ⟨a, rfl⟩ := do1 rfl ho
  obtain ⟨v, rfl, hv⟩ := hd.one
  simp only [Bi.do, Option.map_eq_some_iff] at ho
  obtain ⟨n, ho, rfl⟩ := ho
  have hq := q ι (.int n) H Ext.refl g rfl
  unfold lenD at ho
  split at ho
  · cases ho
    obtain ⟨a, vs, rfl, h1, h2⟩ := hv
    rw [h2.length] at hq
    exact call_len pins s σ H _ us Q I r ⟨_, _, rfl, .inr ⟨_, h1.sq, rfl⟩, hq⟩
  · cases ho
    obtain ⟨a, vs, rfl, ⟨h1, _⟩, h2⟩ := hv
    rw [h2.length] at hq
    exact call_len pins s σ H _ us Q I r ⟨_, _, rfl, .inl ⟨_, SqL.of h1, rfl⟩, hq⟩
  · cases ho
    obtain ⟨a, rfl, h1⟩ := hv
    rename_i ns
    rw [← List.length_map (as := ns) V.int] at hq
    exact call_len pins s σ H _ us Q I r ⟨_, _, rfl, .inl ⟨_, h1.sq, rfl⟩, hq⟩
  · split at ho <;> cases ho
    rename_i hz
    have hv' : v = V.str _ := hv
    subst hv'
    exact call_len pins s σ H _ us Q I r ⟨_, _, rfl, ⟨hz, rfl⟩, hq⟩
  · obtain ⟨a, rfl, h1⟩ := hv
    split at ho
    · cases ho
      rename_i e
      obtain ⟨b, h2, vs, h3, h4⟩ := g.mem _ _ e
      rw [h1] at h2; cases h2
      rw [h4.length] at hq
      exact call_len pins s σ H _ us Q I r ⟨_, _, rfl, .inl ⟨_, SqL.of h3, rfl⟩, hq⟩
    · cases ho
      rename_i kvs e
      obtain ⟨b, h2, vs, h3, h4⟩ := g.mem _ _ e
      rw [h1] at h2; cases h2
      have hl : ((kvs.map fun p => (Sum.inr p.1 : Key)).zip vs).length = kvs.length := by
        have := h4.length
        simp at this ⊢; omega
      obtain ⟨w, rfl, rw'⟩ := vals1 r
      cases rw'
      refine d_len I (.inl h3) fun t s' I' => ⟨.int kvs.length, H, I', ⟨t, ?_⟩, hq⟩
      rw [hl]
    · cases ho
  · cases ho
theorem cb_abs : CallR X (.builtin "abs") (rb X.K X.mg T .abs) := by
  intro pins s σ H xs us Q I r h
  obtain ⟨ι, Z, μ, ds, o, g, hd, ho, q⟩ := h
  obtain ⟨a, rfl⟩ := do1 rfl ho
  obtain ⟨v, rfl, hv⟩ := hd.one
  simp only [Bi.do] at ho
  split at ho <;> cases ho
  have hv' : v = V.int _ := hv
  subst hv'
  exact call_abs pins s σ H _ us Q I r ⟨_, rfl, q ι _ H Ext.refl g rfl⟩
theorem cb_int : CallR X (.type "int") (rb X.K X.mg T .int) := by
  intro pins s σ H xs us Q I r h
  obtain ⟨ι, Z, μ, ds, o, g, hd, ho, q⟩ := h
  obtain ⟨a, rfl⟩ := do1 rfl ho
  obtain ⟨v, rfl, hv⟩ := hd.one
  simp only [Bi.do] at ho
  split at ho
  · cases ho
    have hv' : v = V.int _ := hv
    subst hv'
    exact call_int1 pins s σ H _ us Q I r (.inl ⟨_, rfl, q ι _ H Ext.refl g rfl⟩)
  · cases ho
    have hv' : v = V.bl _ := hv
    subst hv'
    exact call_int1 pins s σ H _ us Q I r (.inr ⟨_, rfl, q ι _ H Ext.refl g rfl⟩)
  · split at ho
    · simp only [Option.map_eq_some_iff] at ho
      obtain ⟨n, hn, rfl⟩ := ho
      have hv' : v = V.str _ := hv
      subst hv'
      exact call_int_str pins s σ H _ us Q I r ⟨_, n, rfl, hn, by assumption, q ι _ H Ext.refl g rfl⟩
    · cases ho
  · cases ho
theorem cb_bool : CallR X (.type "bool") (rb X.K X.mg T .bool) := by
  intro pins s σ H xs us Q I r h
  obtain ⟨ι, Z, μ, ds, o, g, hd, ho, q⟩ := h
  obtain ⟨a, rfl⟩ := do1 rfl ho
  obtain ⟨v, rfl, hv⟩ := hd.one
  simp only [Bi.do] at ho
  split at ho <;> cases ho
  have hv' : v = V.bl _ := hv
  subst hv'
  exact call_bool1 pins s σ H _ us Q I r (.inr ⟨_, rfl, q ι _ H Ext.refl g rfl⟩)
theorem cb_str : CallR X (.type "str") (rb X.K X.mg T .str) := by
  intro pins s σ H xs us Q I r h
  obtain ⟨ι, Z, μ, ds, o, g, hd, ho, q⟩ := h
  obtain ⟨a, rfl⟩ := do1 rfl ho
  obtain ⟨v, rfl, hv⟩ := hd.one
  simp only [Bi.do] at ho
  split at ho
  · split at ho <;> cases ho
    have hv' : v = V.int _ := hv
    subst hv'
    exact call_str_int pins s σ H _ us Q I r ⟨_, rfl, by assumption, q ι _ H Ext.refl g rfl⟩
  · cases ho
    have hv' : v = V.str _ := hv
    subst hv'
    exact SkE.call_str_str pins s σ H _ us Q I r ⟨_, rfl, q ι _ H Ext.refl g rfl⟩
  · cases ho
    have hv' : v = V.bl _ := hv
    subst hv'
    obtain ⟨u, rfl, hu⟩ := vals1 r
    cases hu
    exact PySem.P.str_of_bool ⟨.str _, H, I.tok _, ⟨_, rfl⟩, by simpa using q ι _ H Ext.refl g rfl⟩
  · cases ho
theorem cb_sum (hc : X.calm = true) : CallR X (.builtin "sum") (rb X.K X.mg T .sum) := by
  intro pins s σ H xs us Q I r h
  obtain ⟨ι, Z, μ, ds, o, g, hd, ho, q⟩ := h
  obtain ⟨a, rfl⟩ := do1 rfl ho
  obtain ⟨v, rfl, hv⟩ := hd.one
  simp only [Bi.do] at ho
  split at ho
  · rename_i xs e
    obtain ⟨a, vs, rfl, h1, h2⟩ := see_lst g e hv
    simp only [Option.map_eq_some_iff] at ho
    obtain ⟨ns, e1, rfl⟩ := ho
    have := intsOf_eq e1
    subst this
    have := h2.ints_inv
    subst this
    exact cr_sum hc pins s σ H _ us Q I r ⟨a, ns, rfl, SqL.of h1, q ι _ H Ext.refl g rfl⟩
  · cases ho
theorem Rps.strs {K : PySem.W.Frag} {mg : Str → Option Value} {ι Z : List Addr} {H : Hp} : ∀ (ys : List Str), Rps K mg ι Z H (ys.map .str) (ys.map V.str)
  | [] => rfl
  | y :: ys => ⟨_, _, rfl, rfl, Rps.strs ys⟩
theorem vals_at : ∀ {xs : List V} {us : List Value}, us.length = xs.length → (∀ (j : Nat) (u : Value), us[j]? = some u → ∃ x, xs[j]? = some x ∧ RelV x u) → Vals xs us
  | [], [], _, _ => .nil
  | x :: xs, u :: us, h, g => by
    obtain ⟨y, e, r⟩ := g 0 u rfl
    cases e
    exact .cons r (vals_at (by simpa using h) fun j v hv => g (j + 1) v hv)
  | [], _ :: _, h, _ => by simp at h
  | _ :: _, [], h, _ => by simp at h
theorem signs_vals {x : Str} {acc : Array Value} (h : ItemsOf (SignAt x) acc x.cps.size) : Vals ((x.cps.toList.map fun c => (⟨#[c]⟩ : Str)).map V.str) acc.toList := by
  refine vals_at (by simp [h.1]) fun j u hu => ?_
  obtain ⟨c, t, hc, rfl⟩ := h.2 j u (by simpa using hu)
  refine ⟨.str ⟨#[c]⟩, ?_, ⟨t, rfl⟩⟩
  have hc' : x.cps.toList[j]? = some c := by simpa using hc
  simp [hc']
theorem cb_list (hc : X.calm = true) : CallR X (.type "list") (rb X.K X.mg T .list) := by
  intro pins s σ H xs us Q I r h
  obtain ⟨ι, Z, μ, ds, o, g, hd, ho, q⟩ := h
  obtain ⟨a, rfl⟩ := do1 rfl ho
  obtain ⟨v, rfl, hv⟩ := hd.one
  simp only [Bi.do] at ho
  split at ho
  · rename_i xs e
    obtain ⟨a, vs, rfl, h1, h2⟩ := see_lst g e hv
    cases ho
    exact call_list_of pins s σ H _ us Q I r ⟨a, vs, rfl, .inl (SqL.of h1), fun l hl => q ι _ _ (ext_fresh hl) (g.fresh hl) (Rp.newL g hl h2)⟩
  · rename_i xs e
    obtain ⟨a, vs, rfl, h1, h2⟩ := see_seq g e hv
    cases ho
    exact call_list_of pins s σ H _ us Q I r ⟨a, vs, rfl, .inr h1.sq, fun l hl => q ι _ _ (ext_fresh hl) (g.fresh hl) (Rp.newL g hl h2)⟩
  · rename_i x e
    have e := see_of e (fun _ z => by cases z)
    subst e
    split at ho <;> cases ho
    rename_i hz
    have hv' : v = V.str x := hv
    subst hv'
    obtain ⟨u, rfl, rx⟩ := vals1 r
    obtain ⟨t, rfl⟩ := rx
    refine call_list_str (I.ok.hd hc) x t (fun h' tk acc' c' kp e hacc => ?_) (by show x.cps.size ≤ sizeLine; have : x.cps.size ≤ 1000 := hz; rw [sizeLine_eq]; omega)
    have hva : Vals ((x.cps.toList.map fun c => (⟨#[c]⟩ : Str)).map V.str) acc'.toList := signs_vals hacc
    have hl : (x.cps.toList.map fun c => (⟨#[c]⟩ : Str)).length = x.cps.size := by simp
    refine ⟨.ref s.heap.objs.size, upd H s.heap.objs.size (.lst ((x.cps.toList.map fun c => (⟨#[c]⟩ : Str)).map V.str)), I.laid (t' := tk) kp (Nat.le_refl _) ⟨by rw [List.length_map, hl]; have : x.cps.size ≤ 1000 := hz; rw [sizeLine_eq]; omega, acc'.toList, c', hva, by simpa using e⟩, rfl, ?_⟩
    have hn := I.hok.fresh (Nat.le_refl s.heap.objs.size)
    refine q ι _ _ (ext_fresh hn) (g.fresh hn) (Rp.newL g hn ?_)
    have := Rps.strs (K := X.K) (mg := X.mg) (ι := ι) (Z := Z) (H := H) (x.cps.toList.map fun c => (⟨#[c]⟩ : Str))
    rw [List.map_map] at this
    exact this
  · cases ho
theorem cb_tuple : CallR X (.type "tuple") (rb X.K X.mg T .tuple) := by
  intro pins s σ H xs us Q I r h
  obtain ⟨ι, Z, μ, ds, o, g, hd, ho, q⟩ := h
  obtain ⟨a, rfl⟩ := do1 rfl ho
  obtain ⟨v, rfl, hv⟩ := hd.one
  simp only [Bi.do] at ho
  split at ho
  · rename_i xs e
    obtain ⟨a, vs, rfl, h1, h2⟩ := see_lst g e hv
    cases ho
    exact call_tuple_of pins s σ H _ us Q I r ⟨a, vs, rfl, .inl ⟨SqL.of h1, fun l hl => q ι _ _ (ext_fresh hl) (g.fresh hl) (Rp.newT hl h2)⟩⟩
  · rename_i xs e
    obtain ⟨a, vs, rfl, h1, h2⟩ := see_seq g e hv
    cases ho
    exact call_tuple_of pins s σ H _ us Q I r ⟨a, vs, rfl, .inr ⟨h1.sq, q ι _ _ Ext.refl g ⟨a, vs, rfl, h1, h2⟩⟩⟩
  · cases ho
theorem cb_min (hc : X.calm = true) : CallR X (.builtin "min") (rb X.K X.mg T .min) := by
  intro pins s σ H xs us Q I r h
  obtain ⟨ι, Z, μ, ds, o, g, hd, ho, q⟩ := h
  obtain ⟨a, b, rfl⟩ := do2 rfl ho
  obtain ⟨v, w, rfl, hv, hw⟩ := hd.two
  simp only [Bi.do] at ho
  split at ho <;> cases ho
  have hv' : v = V.int _ := hv
  have hw' : w = V.int _ := hw
  subst hv' hw'
  exact call_min2 hc pins s σ H _ us Q I r ⟨_, _, rfl, q ι _ H Ext.refl g rfl⟩
theorem cb_max (hc : X.calm = true) : CallR X (.builtin "max") (rb X.K X.mg T .max) := by
  intro pins s σ H xs us Q I r h
  obtain ⟨ι, Z, μ, ds, o, g, hd, ho, q⟩ := h
  obtain ⟨a, b, rfl⟩ := do2 rfl ho
  obtain ⟨v, w, rfl, hv, hw⟩ := hd.two
  simp only [Bi.do] at ho
  split at ho <;> cases ho
  have hv' : v = V.int _ := hv
  have hw' : w = V.int _ := hw
  subst hv' hw'
  exact call_max2 hc pins s σ H _ us Q I r ⟨_, _, rfl, q ι _ H Ext.refl g rfl⟩
theorem ty_of {ι Z : List Addr} {H : Hp} {μ : List Mo} {d : D} {v : V} {t : String} (g : RG X.K X.mg T ι Z H μ) (h : Rp X.K X.mg ι Z H d v) (e : tyD μ d = some t) : TyX X.K H v (.type t) := by
  unfold tyD at e
  split at e
  · cases e; rw [show v = V.non from h]; exact .base .non
  · cases e; rw [show v = V.bl _ from h]; exact .base (.bl _)
  · cases e; rw [show v = V.int _ from h]; exact .base (.int _)
  · cases e; rw [show v = V.str _ from h]; exact .base (.str _)
  · cases e
    obtain ⟨a, vs, rfl, h1, h2⟩ := h
    rcases h1 with h1 | ⟨o, its, n, h1, h3, _⟩
    · exact .base (.tup h1)
    · exact .kTuple h1 h3
  · cases e
    obtain ⟨a, vs, rfl, ⟨h1, _⟩, h2⟩ := h
    exact .base (.lst h1)
  · obtain ⟨a, rfl, h1⟩ := h
    split at e
    · cases e
      rename_i q
      obtain ⟨b, h2, vs, h3, h4⟩ := g.mem _ _ q
      rw [h1] at h2; cases h2
      exact .base (.lst h3)
    · cases e
      rename_i q
      obtain ⟨b, h2, vs, h3, h4⟩ := g.mem _ _ q
      rw [h1] at h2; cases h2
      exact .base (.dK h3)
    · cases e
  · cases e
theorem cb_isi : CallR X (.builtin "isinstance") (rb X.K X.mg T .isi) := by
  intro pins s σ H xs us Q I r h
  obtain ⟨ι, Z, μ, ds, o, g, hd, ho, q⟩ := h
  obtain ⟨a, b, rfl⟩ := do2 rfl ho
  obtain ⟨v, w, rfl, hv, hw⟩ := hd.two
  simp only [Bi.do, Option.map_eq_some_iff, isiD] at ho
  obtain ⟨b, ho, rfl⟩ := ho
  split at ho
  · simp only [Option.bind_eq_some_iff] at ho
    obtain ⟨t, e1, e2⟩ := ho
    have hw' : w = V.ty _ := hw
    subst hw'
    exact call_isi pins s σ H _ us Q I r ⟨_, _, _, _, _, rfl, .ty _, ty_of g hv e1, kit_ty e2, q ι _ H Ext.refl g rfl⟩
  · cases ho
/-! ### methods of texts -/
theorem Rps.strs_inv {K : PySem.W.Frag} {mg : Str → Option Value} {ι Z : List Addr} {H : Hp} : ∀ {ds : List D} {ys : List Str} {vs : List V}, strsOf ds = some ys → Rps K mg ι Z H ds vs → vs = ys.map V.str
  | [], ys, vs, e, h => by
    simp only [strsOf, Option.some.injEq] at e
    subst e
    exact h
  | .str x :: ds, ys, vs, e, h => by
    simp only [strsOf, Option.map_eq_some_iff] at e
    obtain ⟨zs, e1, rfl⟩ := e
    obtain ⟨v, vs', rfl, h1, h2⟩ := h
    rw [Rps.strs_inv e1 h2, show v = V.str x from h1]; rfl
  | .non :: _, _, _, e, _ => by cases e
  | .bl _ :: _, _, _, e, _ => by cases e
  | .int _ :: _, _, _, e, _ => by cases e
  | .ty _ :: _, _, _, e, _ => by cases e
  | .glo _ :: _, _, _, e, _ => by cases e
  | .tup _ :: _, _, _, e, _ => by cases e
  | .lst _ :: _, _, _, e, _ => by cases e
  | .obj _ :: _, _, _, e, _ => by cases e
  | .scr _ :: _, _, _, e, _ => by cases e
def rM (K : PySem.W.Frag) (mg : Str → Option Value) (T : TW) (f : Bi) : V → List V → Hp → VK → Prop := fun x xs H Q => rb K mg T f (x :: xs) H Q
theorem mb_upper : MtR X "str.upper" (rM X.K X.mg T .upper) := by
  intro pins s σ H x xs v us Q I rx rs h
  obtain ⟨ι, Z, μ, ds, o, g, hd, ho, q⟩ := h
  obtain ⟨a, rfl⟩ := do1 rfl ho
  obtain ⟨v1, e1, hv⟩ := hd.one
  cases e1
  simp only [Bi.do] at ho
  split at ho
  · split at ho
    · cases ho
      have hv' : x = V.str _ := hv
      subst hv'
      exact mt_upper pins s σ H _ _ v us Q I rx rs ⟨_, rfl, rfl, by assumption, q ι _ H Ext.refl g rfl⟩
    · cases ho
  · cases ho
theorem mb_split : MtR X "str.split" (rM X.K X.mg T .split) := by
  intro pins s σ H x xs v us Q I rx rs h
  obtain ⟨ι, Z, μ, ds, o, g, hd, ho, q⟩ := h
  obtain ⟨a, b, rfl⟩ := do2 rfl ho
  obtain ⟨v1, w1, e1, hv, hw⟩ := hd.two
  cases e1
  simp only [Bi.do] at ho
  split at ho
  · rename_i x1 y1
    split at ho
    · rename_i hz
      cases ho
      simp only [Bool.and_eq_true, Bool.not_eq_true', decide_eq_true_eq] at hz
      have hv' : x = V.str _ := hv
      have hw' : w1 = V.str _ := hw
      subst hv' hw'
      exact mt_split pins s σ H _ _ v us Q I rx rs ⟨_, _, rfl, rfl, hz.1, hz.2, fun p hp => q ι _ _ (ext_fresh hp) (g.fresh hp) (Rp.newL g hp (Rps.strs _))⟩
    · cases ho
  · cases ho
theorem mb_join : MtR X "str.join" (rM X.K X.mg T .join) := by
  intro pins s σ H x xs v us Q I rx rs h
  obtain ⟨ι, Z, μ, ds, o, g, hd, ho, q⟩ := h
  obtain ⟨a, b, rfl⟩ := do2 rfl ho
  obtain ⟨v1, w1, e1, hv, hw⟩ := hd.two
  cases e1
  simp only [Bi.do] at ho
  split at ho
  · rename_i x1 ds1 e2
    simp only [Option.bind_eq_some_iff] at ho
    obtain ⟨ys, e3, ho⟩ := ho
    split at ho
    · rename_i hz
      cases ho
      have hv' : x = V.str _ := hv
      subst hv'
      obtain ⟨p, vs, rfl, h1, h2⟩ := see_lst g e2 hw
      have := Rps.strs_inv e3 h2
      subst this
      exact mt_join pins s σ H _ _ v us Q I rx rs ⟨_, _, ys, rfl, rfl, .inl (SqL.of h1), hz, q ι _ H Ext.refl g rfl⟩
    · cases ho
  · rename_i x1 ds1 e2
    simp only [Option.bind_eq_some_iff] at ho
    obtain ⟨ys, e3, ho⟩ := ho
    split at ho
    · rename_i hz
      cases ho
      have hv' : x = V.str _ := hv
      subst hv'
      obtain ⟨p, vs, rfl, h1, h2⟩ := see_seq g e2 hw
      have := Rps.strs_inv e3 h2
      subst this
      exact mt_join pins s σ H _ _ v us Q I rx rs ⟨_, _, ys, rfl, rfl, .inr h1.sq, hz, q ι _ H Ext.refl g rfl⟩
    · cases ho
  · cases ho
/-! ### items, slices -/
def rix (K : PySem.W.Frag) (mg : Str → Option Value) (T : TW) : R2 := fun x y H Q => ∃ ι Z μ d e r, RG K mg T ι Z H μ ∧ Rp K mg ι Z H d x ∧ Rp K mg ι Z H e y ∧ ixD μ d e = some r ∧
  ∀ ι' v H', Ext ι [] H ι' H' → RG K mg T ι' Z H' μ → Rp K mg ι' Z H' r v → Q v H'
theorem Rps.atI {K : PySem.W.Frag} {mg : Str → Option Value} {ι Z : List Addr} {H : Hp} {ds : List D} {vs : List V} {i : Int} {d : D} (h : Rps K mg ι Z H ds vs) (e : L2.atI ds i = some d) : ∃ v, L2.atI vs i = some v ∧ Rp K mg ι Z H d v := by
  unfold L2.atI at e ⊢
  rw [Option.bind_eq_some_iff] at e
  obtain ⟨j, e1, e2⟩ := e
  obtain ⟨v, e3, e4⟩ := h.get e2
  exact ⟨v, by rw [← h.length, e1]; exact e3, e4⟩
abbrev kS (p : Str × D) : Key := Sum.inr p.1
theorem dct_get {K : PySem.W.Frag} {mg : Str → Option Value} {ι Z : List Addr} {H : Hp} : ∀ {kvs : List (Str × D)} {vs : List V} {z : Str} {r : D}, Rps K mg ι Z H (kvs.map (·.2)) vs → kvs.lookup z = some r → ∃ v, L2.valV ((kvs.map kS).zip vs) (Sum.inr z : Key) = some v ∧ Rp K mg ι Z H r v
  | [], _, _, _, _, e => by cases e
  | (k, d) :: kvs, _, z, r, h, e => by
    obtain ⟨v, vs', rfl, h1, h2⟩ := h
    have e : (match z == k with | true => some d | false => kvs.lookup z) = some r := e
    cases q : (z == k) with
    | true =>
      rw [q] at e
      cases e
      have := beq_iff_eq.mp q
      subst this
      exact ⟨v, L2.valV_pos rfl, h1⟩
    | false =>
      rw [q] at e
      obtain ⟨w, h3, h4⟩ := dct_get h2 e
      refine ⟨w, ?_, h4⟩
      have nk : ¬ ((Sum.inr k : Key) = Sum.inr z) := fun y => by cases y; simp at q
      unfold L2.valV at h3 ⊢
      rw [List.map_cons, List.zip_cons_cons, List.find?_cons_of_neg (by simpa using nk)]
      exact h3
theorem ix_ok (hw : T.w = X.w) (hu : X.A.units + 9 < cLine) : IxR X (rix X.K X.mg T) := by
  intro value slice pins s σ H x y v u Q I rx ry h hs
  obtain ⟨ι, Z, μ, d, e, r, g, hd, he, ho, q⟩ := h
  unfold ixD at ho
  split at ho
  · rename_i xs j e1
    obtain ⟨a, vs, rfl, h1, h2⟩ := see_seq g e1 hd
    obtain ⟨w, h3, h4⟩ := h2.atI ho
    exact ix_tup value slice pins s σ H _ _ v u Q I rx ry ⟨a, vs, j, w, rfl, he, h1.sq, h3, q ι _ H Ext.refl g h4⟩ hs
  · rename_i xs j e1
    obtain ⟨a, vs, rfl, h1, h2⟩ := see_lst g e1 hd
    obtain ⟨w, h3, h4⟩ := h2.atI ho
    exact ix_list value slice pins s σ H _ _ v u Q I rx ry ⟨a, vs, j, w, rfl, he, SqL.of h1, h3, q ι _ H Ext.refl g h4⟩ hs
  · rename_i ns j e1
    have e1 := see_of e1 (fun _ z => by cases z)
    subst e1
    obtain ⟨a, rfl, h1⟩ := hd
    simp only [Option.map_eq_some_iff] at ho
    obtain ⟨n, e2, rfl⟩ := ho
    refine ix_list value slice pins s σ H _ _ v u Q I rx ry ⟨a, _, j, .int n, rfl, he, h1.sq, ?_, q ι _ H Ext.refl g rfl⟩ hs
    unfold L2.atI at e2 ⊢
    rw [Option.bind_eq_some_iff] at e2
    obtain ⟨k, e3, e4⟩ := e2
    rw [List.length_map, e3]
    simp [e4]
  · rename_i z j e1
    have e1 := see_of e1 (fun _ z => by cases z)
    subst e1
    split at ho
    · rename_i hz
      simp only [Option.map_eq_some_iff] at ho
      obtain ⟨c, e2, rfl⟩ := ho
      exact ix_str value slice pins s σ H _ _ v u Q I rx ry ⟨z, j, c, hd, he, hz, e2, q ι _ H Ext.refl g rfl⟩ hs
    · cases ho
  · rename_i n z e1
    have e1 := see_of e1 (fun _ z => by cases z)
    subst e1
    split at ho
    · rename_i kvs hm
      obtain ⟨a, rfl, ha⟩ := hd
      obtain ⟨b, hb, vs, hv, rv⟩ := g.mem n _ hm
      rw [ha] at hb
      cases hb
      obtain ⟨w, h3, h4⟩ := dct_get rv ho
      have he' : y = V.str z := he
      subst he'
      obtain rfl : v = Value.ref a := rx
      have gg : L2.DGet H a (.str z) (some w) := by
        have := L2.DGet.k (k := (Sum.inr z : Key)) hv
        rw [h3] at this
        exact this
      exact tail_any (dict_typeIs I gg) PySem.F.slot_dict_getitem.lookup (d_getItem (by omega) I gg ry fun w' s' I' rw' => ⟨w, H, I', rw', q ι _ H Ext.refl g h4⟩) hs
    · cases ho
  · rename_i n ds e1
    have e1 := see_of e1 (fun _ z => by cases z)
    subst e1
    split at ho
    · rename_i kvs hm
      simp only [Option.bind_eq_some_iff] at ho
      obtain ⟨k, hk, hl⟩ := ho
      obtain ⟨a, rfl, ha⟩ := hd
      obtain rfl : v = Value.ref a := rx
      refine tail_any ?_ PySem.F.slot_dict_getitem.lookup (nd_getItem hw hu I g hm ha hk he ry hl fun y u' s' I' rv' rp => ⟨y, H, I', rv', q ι _ H Ext.refl g rp⟩) hs
      obtain ⟨xs, h1, h2, h3, h4, h5⟩ := nd_mem hw g hm ha
      obtain ⟨ys, r1, dd⟩ := nd_dict I h1 h3 h4
      exact dd.typeIs
    · cases ho
  · cases ho
def rsl (K : PySem.W.Frag) (mg : Str → Option Value) (T : TW) : V → Option Int → Option Int → Hp → VK → Prop := fun x lo hi H Q => ∃ ι Z μ d r, RG K mg T ι Z H μ ∧ Rp K mg ι Z H d x ∧ slD μ d lo hi = some r ∧
  ∀ ι' v H', Ext ι [] H ι' H' → RG K mg T ι' Z H' μ → Rp K mg ι' Z H' r v → Q v H'
theorem Rps.cut {K : PySem.W.Frag} {mg : Str → Option Value} {ι Z : List Addr} {H : Hp} {ds : List D} {vs : List V} (h : Rps K mg ι Z H ds vs) (lo hi : Option Int) : Rps K mg ι Z H (cutL ds lo hi) (cutV vs lo hi) := by
  unfold cutL cutV
  rw [h.length]
  exact (h.drop _).take _
theorem sl_ok : SlR X (rsl X.K X.mg T) := by
  intro pins s σ H x v vl vu lo hi sl Q I rx hs pl pu h
  obtain ⟨ι, Z, μ, d, r, g, hd, ho, q⟩ := h
  unfold slD at ho
  split at ho
  · rename_i xs e1
    obtain ⟨a, vs, rfl, h1, h2⟩ := see_seq g e1 hd
    cases ho
    refine sl_tupA pins s σ H _ v vl vu lo hi sl Q I rx hs pl pu ⟨a, vs, rfl, h1.sq, fun hw => ?_, fun _ p hp => q ι _ _ (ext_fresh hp) (g.fresh hp) (Rp.newT hp (h2.cut lo hi))⟩
    refine q ι _ H Ext.refl g ⟨a, vs, rfl, h1, ?_⟩
    have : cutL xs lo hi = xs := by
      unfold cutL
      rw [h2.length, hw.1, hw.2]
      simp [← h2.length]
    rw [this]; exact h2
  · rename_i xs e1
    obtain ⟨a, vs, rfl, h1, h2⟩ := see_lst g e1 hd
    cases ho
    exact sl_list pins s σ H _ v vl vu lo hi sl Q I rx hs pl pu ⟨a, vs, rfl, SqL.of h1, fun p hp => q ι _ _ (ext_fresh hp) (g.fresh hp) (Rp.newL g hp (h2.cut lo hi))⟩
  · rename_i z e1
    have e1 := see_of e1 (fun _ z => by cases z)
    subst e1
    split at ho <;> cases ho
    rename_i hz
    exact sl_str pins s σ H _ v vl vu lo hi sl Q I rx hs pl pu ⟨z, hd, hz, q ι _ H Ext.refl g rfl⟩
  · cases ho
end
end Mi
set_option Elab.async false
set_option linter.all false
set_option maxRecDepth 100000
set_option maxHeartbeats 4000000
/-! Mr: readings by the small language; how its terms are read off the text. -/
namespace Mi
open PySem PySem.Spec PyProof.Rows L2
/-! ### the slots -/
def SlOk (K : PySem.W.Frag) (mg : Str → Option Value) (ι Z Zf : List Addr) (H : Hp) : Sl → Option (Option V) → Prop
  | .un, _ => True
  | .d x, s => ∃ v, s = some (some v) ∧ Rp K mg ι Z H x v
  | .lin xs, s => ∃ a vs, s = some (some (.ref a)) ∧ a ∈ Zf ∧ H a = some (.lst vs) ∧ Rps K mg ι Z H xs vs
structure SR (K : PySem.W.Frag) (mg : Str → Option Value) (ι Z Zf : List Addr) (H : Hp) (δ : List Sl) (σ : L2.St) : Prop where
  len : δ.length = σ.length
  ok : ∀ (i : Nat) (s : Sl), δ[i]? = some s → SlOk K mg ι Z Zf H s σ[i]?
  apart : ∀ (i j : Nat) (xs ys : List D) (a : Addr), δ[i]? = some (.lin xs) → δ[j]? = some (.lin ys) → σ[i]? = some (some (V.ref a)) → σ[j]? = some (some (V.ref a)) → i = j
  sub : ∀ z ∈ Zf, z ∈ Z
section
variable {K : PySem.W.Frag} {mg : Str → Option Value} {T : TW} {ι Z Zf ι' Z' : List Addr} {H H' : Hp} {μ μ' : List Mo} {δ : List Sl} {σ : L2.St}
/-- behind an expression: what the slots hold stands -/
theorem SR.ext (g : RG K mg T ι Z H μ) (s : SR K mg ι Z Zf H δ σ) (e : Ext ι [] H ι' H') : SR K mg ι' Z Zf H' δ σ := by
  refine ⟨s.len, fun i x hx => ?_, s.apart, s.sub⟩
  have h := s.ok i x hx
  cases x with
  | un => trivial
  | d x => obtain ⟨v, h1, h2⟩ := h; exact ⟨v, h1, h2.ext0 e⟩
  | lin xs =>
    obtain ⟨a, vs, h1, h2, h3, h4⟩ := h
    refine ⟨a, vs, h1, h2, e.keep a _ h3 (g.zl a (s.sub a h2)).2 (by simp) (fun _ z => by cases z), h4.ext0 e⟩
theorem SR.get (s : SR K mg ι Z Zf H δ σ) {i : Nat} {x : D} (h : δ[i]? = some (.d x)) : ∃ v, σ[i]? = some (some v) ∧ Rp K mg ι Z H x v := s.ok i _ h
theorem SR.set (s : SR K mg ι Z Zf H δ σ) {i : Nat} {x : D} {v : V} (h : Rp K mg ι Z H x v) : SR K mg ι Z Zf H (δ.set i (.d x)) (σ.set i (some v)) := by
  refine ⟨by simp [s.len], fun j y hy => ?_, fun j k xs ys a h1 h2 h3 h4 => ?_, s.sub⟩
  · by_cases e : i = j
    · subst e
      have hl : i < δ.length := by
        have := (List.getElem?_eq_some_iff.mp hy).1
        simpa using this
      rw [List.getElem?_set_self hl] at hy
      cases hy
      exact ⟨v, by rw [List.getElem?_set_self (by rw [← s.len]; exact hl)], h⟩
    · rw [List.getElem?_set_ne e] at hy ⊢
      exact s.ok j y hy
  · have hj : i ≠ j := fun e => by
      subst e
      have hl : i < δ.length := by
        have := (List.getElem?_eq_some_iff.mp h1).1
        simpa using this
      rw [List.getElem?_set_self hl] at h1
      cases h1
    have hk : i ≠ k := fun e => by
      subst e
      have hl : i < δ.length := by
        have := (List.getElem?_eq_some_iff.mp h2).1
        simpa using this
      rw [List.getElem?_set_self hl] at h2
      cases h2
    rw [List.getElem?_set_ne hj] at h1 h3
    rw [List.getElem?_set_ne hk] at h2 h4
    exact s.apart j k xs ys a h1 h2 h3 h4
theorem SR.wipe1 (s : SR K mg ι Z Zf H δ σ) (i : Nat) : SR K mg ι Z Zf H (δ.set i .un) (σ.set i none) := by
  refine ⟨by simp [s.len], fun j y hy => ?_, fun j k xs ys a h1 h2 h3 h4 => ?_, s.sub⟩
  · by_cases e : i = j
    · subst e
      have hl : i < δ.length := by
        have := (List.getElem?_eq_some_iff.mp hy).1
        simpa using this
      rw [List.getElem?_set_self hl] at hy
      cases hy
      trivial
    · rw [List.getElem?_set_ne e] at hy ⊢
      exact s.ok j y hy
  · have hj : i ≠ j := fun e => by
      subst e
      have hl : i < δ.length := by
        have := (List.getElem?_eq_some_iff.mp h1).1
        simpa using this
      rw [List.getElem?_set_self hl] at h1
      cases h1
    have hk : i ≠ k := fun e => by
      subst e
      have hl : i < δ.length := by
        have := (List.getElem?_eq_some_iff.mp h2).1
        simpa using this
      rw [List.getElem?_set_self hl] at h2
      cases h2
    rw [List.getElem?_set_ne hj] at h1 h3
    rw [List.getElem?_set_ne hk] at h2 h4
    exact s.apart j k xs ys a h1 h2 h3 h4
theorem SR.wipe (s : SR K mg ι Z Zf H δ σ) : ∀ vs : List Nat, SR K mg ι Z Zf H (wipeS δ vs) (wipe σ vs)
  | [] => s
  | v :: vs => (SR.wipe s vs).wipe1 v
end
/-! ### what comes of a term -/
/-- the attribute of an exception with one of its own -/
def xattr (c : Str) : Str := if c = "TooMany" then "limit" else "line"
/-- an exception as it flies: its class, its own dict -/
def XR (mg : Str → Option Value) : Ex → Value → Option Addr → Hp → Prop := fun e cv dx H => match e with
  | (c, none) => (∃ C, mg c = some (.ref C) ∧ cv = .ref C) ∧ dx = none
  | (c, some (.int i)) => (∃ C, mg c = some (.ref C) ∧ cv = .ref C) ∧ ∃ dd, dx = some dd ∧ H dd = some (.xd [(xattr c, .int i)])
  | _ => False
def post {α β : Type} (K : PySem.W.Frag) (mg : Str → Option Value) (T : TW) (rel : List Addr → List Addr → Hp → α → β → Prop) (ι Z : List Addr) (H : Hp) (r : RM α) (Q : β → Hp → Prop) (W : Value → Option Addr → Hp → Prop) : Prop :=
  match r with
  | none => False
  | some (.ok a, μ) => ∀ ι' b H', Ext ι [] H ι' H' → RG K mg T ι' Z H' μ → rel ι' Z H' a b → Q b H'
  | some (.error e, μ) => ∀ ι' H' cv dx, Ext ι [] H ι' H' → RG K mg T ι' Z H' μ → XR mg e cv dx H' → W cv dx H'
section
variable {α β γ κ : Type} {K : PySem.W.Frag} {mg : Str → Option Value} {T : TW} {rel : List Addr → List Addr → Hp → α → β → Prop} {rel' : List Addr → List Addr → Hp → γ → κ → Prop} {ι Z ι1 : List Addr} {H H1 : Hp} {Q : β → Hp → Prop} {Q' : κ → Hp → Prop} {W : Value → Option Addr → Hp → Prop}
theorem post.mono {r : RM α} (h : post K mg T rel ι Z H r Q W) (e : Ext ι [] H ι1 H1) : post K mg T rel ι1 Z H1 r Q W := by
  match r, h with
  | some (.ok a, μ), h => exact fun ι' b H' e' => h ι' b H' (e.trans0 e')
  | some (.error x, μ), h => exact fun ι' H' cv dx e' => h ι' H' cv dx (e.trans0 e')
theorem post.bind {x : RM α} {f : α → List Mo → RM γ} (hp : post K mg T rel' ι Z H (bindR x f) Q' W)
    (h : ∀ a μ1 ι1 b H1, Ext ι [] H ι1 H1 → RG K mg T ι1 Z H1 μ1 → rel ι1 Z H1 a b → post K mg T rel' ι1 Z H1 (f a μ1) Q' W → Q b H1) : post K mg T rel ι Z H x Q W := by
  match x, hp with
  | some (.ok a, μ), hp => exact fun ι' b H' e' g r => h a μ ι' b H' e' g r (hp.mono e')
  | some (.error x, μ), hp => exact hp
theorem post.ret {a : α} {b : β} {μ : List Mo} (hp : post K mg T rel ι Z H (retR a μ) Q W) (g : RG K mg T ι Z H μ) (r : rel ι Z H a b) : Q b H := hp ι b H Ext.refl g r
end
/-- what is wanted of an exception at these slots -/
abbrev WS (W : WX) (σ : L2.St) : Value → Option Addr → Hp → Prop := fun c d H => W c d σ H
def tR {α β : Type} (K : PySem.W.Frag) (mg : Str → Option Value) (T : TW) (W : WX) (rel : List Addr → List Addr → Hp → α → β → Prop) (r : List Sl → List Mo → RM α) : L2.St → Hp → (β → Hp → Prop) → Prop := fun σ H Q =>
  ∃ ι Z Zf μ δ, RG K mg T ι Z H μ ∧ SR K mg ι Z Zf H δ σ ∧ post K mg T rel ι Z H (r δ μ) Q (WS W σ)
abbrev tE (K : PySem.W.Frag) (mg : Str → Option Value) (T : TW) (W : WX) (c : E) : TE := tR K mg T W (Rp K mg) (ev c)
abbrev tEs (K : PySem.W.Frag) (mg : Str → Option Value) (T : TW) (W : WX) (c : Es) : TA := tR K mg T W (Rps K mg) (evs c)
/-- as a test -/
def evT (c : E) : List Sl → List Mo → RM Bool := fun δ μ => bindR (ev c δ μ) fun d μ => match d with
  | .bl b => retR b μ
  | _ => none
abbrev tT (K : PySem.W.Frag) (mg : Str → Option Value) (T : TW) (W : WX) (c : E) : TT := tR K mg T W (fun _ _ _ (d b : Bool) => d = b) (evT c)
theorem PE.imp {X : Cx} {e : Expr} {t t' : TE} (h : PE X e t) (i : ∀ σ H Q, t' σ H Q → t σ H Q) : PE X e t' := ⟨fun pins s σ H Q I q => h.run pins s σ H Q I (i σ H Q q)⟩
theorem PT.imp {X : Cx} {e : Expr} {t t' : TT} (h : PT X e t) (i : ∀ σ H Q, t' σ H Q → t σ H Q) : PT X e t' := ⟨fun pins s σ H Q I q => h.run pins s σ H Q I (i σ H Q q)⟩
theorem PW.imp {X : Cx} {e : Expr} {t t' : TT} (h : PW X e t) (i : ∀ σ H Q, t' σ H Q → t σ H Q) : PW X e t' := ⟨fun wh pins s σ H Q I q => h.run wh pins s σ H Q I (i σ H Q q)⟩
theorem PA.imp {X : Cx} {e : List Expr} {t t' : TA} (h : PA X e t) (i : ∀ σ H Q, t' σ H Q → t σ H Q) : PA X e t' := ⟨fun pos pins s σ H Q I q => h.run pos pins s σ H Q I (i σ H Q q)⟩
section
variable {X : Cx} {T : TW} {W : WX} {a b c : Expr} {ca cb cc : E} {pos : Pos}
/-- an operator -/
theorem to_op {o : Op} {σ : L2.St} {H : Hp} {Q : VK} (h : tE X.K X.mg T W (.op o ca cb) σ H Q) : tOp (r2 X.K X.mg T o) (tE X.K X.mg T W ca) (tE X.K X.mg T W cb) σ H Q := by
  obtain ⟨ι, Z, Zf, μ, δ, g, sr, hp⟩ := h
  refine ⟨ι, Z, Zf, μ, δ, g, sr, post.bind hp fun x μ1 ι1 v H1 e1 g1 r1 hp1 => ?_⟩
  refine ⟨ι1, Z, Zf, μ1, δ, g1, sr.ext g e1, post.bind hp1 fun y μ2 ι2 w H2 e2 g2 r2 hp2 => ?_⟩
  unfold optR at hp2
  cases ho : o.do μ2 x y with
  | none => rw [ho] at hp2; exact hp2.elim
  | some r =>
    rw [ho] at hp2
    exact ⟨ι2, Z, μ2, x, y, r, g2, r1.ext0 e2, r2, ho, hp2⟩
theorem m_op {op : Operator} {o : Op} (ho : OpR X (binaryOp op) (r2 X.K X.mg T o)) (ha : PE X a (tE X.K X.mg T W ca)) (hb : PE X b (tE X.K X.mg T W cb)) : PE X (.BinOp a op b pos) (tE X.K X.mg T W (.op o ca cb)) :=
  PE.imp (pe_op ho ha hb) fun _ _ _ h => to_op h
theorem m_cmp {op : CmpOp} {o : Op} (ho : OpR X (compareOp op) (r2 X.K X.mg T o)) (ha : PE X a (tE X.K X.mg T W ca)) (hb : PE X b (tE X.K X.mg T W cb)) (hm : behindInMarks op b = false) : PE X (.Compare a [op] [b] pos) (tE X.K X.mg T W (.op o ca cb)) :=
  PE.imp (pe_cmpR ho ha hb hm) fun _ _ _ h => to_op h
theorem E2T {c : E} {σ : L2.St} {H : Hp} {Q : Bool → Hp → Prop} (h : tT X.K X.mg T W c σ H Q) : tE X.K X.mg T W c σ H (fun x H1 => ∃ k, x = .bl k ∧ Q k H1) := by
  obtain ⟨ι, Z, Zf, μ, δ, g, sr, hp⟩ := h
  refine ⟨ι, Z, Zf, μ, δ, g, sr, post.bind hp fun d μ1 ι1 v H1 e1 g1 r1 hp1 => ?_⟩
  cases d with
  | bl k => exact ⟨k, r1, post.ret hp1 g1 rfl⟩
  | _ => exact hp1.elim
end
end Mi
set_option Elab.async false
set_option linter.all false
set_option maxRecDepth 100000
set_option maxHeartbeats 4000000
/-! Ms: each term of the small language over the rule of its construct. -/
namespace Mi
open PySem PySem.Spec PyProof.Rows L2
section
variable {X : Cx} {T : TW} {W : WX} {a b c : Expr} {ca cb cc : E} {pos : Pos}
theorem m_var {i : Nat} {x : Str} (hN : X.N[i]? = some x) (hv : Vis X.env.scope x) (hd : (x == ("__debug__" : Str)) = false) (hcd : (x == ("__classdict__" : Str)) = false) : PE X (.Name x pos) (tE X.K X.mg T W (.var i)) :=
  PE.imp (pe_var hN hv hd hcd) fun σ H Q h => by
    obtain ⟨ι, Z, Zf, μ, δ, g, sr, hp⟩ := h
    simp only [ev] at hp
    split at hp
    · rename_i x e
      obtain ⟨v, e1, r⟩ := sr.get e
      exact ⟨v, e1, post.ret hp g r⟩
    · exact hp.elim
theorem con_imp {d : D} {v : V} (r : ∀ ι Z H, Rp X.K X.mg ι Z H d v) {σ : L2.St} {H : Hp} {Q : VK} (h : tE X.K X.mg T W (.con d) σ H Q) : Q v H := by
  obtain ⟨ι, Z, Zf, μ, δ, g, sr, hp⟩ := h
  simp only [ev] at hp
  exact post.ret hp g (r _ _ _)
theorem m_int {i j} : PE X (.Constant (.int i) j pos) (tE X.K X.mg T W (.con (.int i))) := PE.imp pe_int fun _ _ _ h => con_imp (d := .int i) (v := .int i) (fun _ _ _ => rfl) h
theorem m_bl {i j} : PE X (.Constant (.bool i) j pos) (tE X.K X.mg T W (.con (.bl i))) := PE.imp pe_bl fun _ _ _ h => con_imp (d := .bl i) (v := .bl i) (fun _ _ _ => rfl) h
theorem m_non {j} : PE X (.Constant .none j pos) (tE X.K X.mg T W (.con .non)) := PE.imp pe_non fun _ _ _ h => con_imp (d := .non) (v := .non) (fun _ _ _ => rfl) h
theorem m_str {i j} : PE X (.Constant (.str i) j pos) (tE X.K X.mg T W (.con (.str i))) := PE.imp pe_str fun _ _ _ h => con_imp (d := .str i) (v := .str i) (fun _ _ _ => rfl) h
theorem m_glob {x : Str} {v : V} {u : Value} {d : D} (hg : Gl X x) (hm : X.mg x = some u) (r : RelV v u) (hr : ∀ ι Z H, Rp X.K X.mg ι Z H d v) (hd : (x == ("__debug__" : Str)) = false) : PE X (.Name x pos) (tE X.K X.mg T W (.con d)) :=
  PE.imp (pe_glob hg hm r hd) fun _ _ _ h => con_imp hr h
theorem m_blt {x : Str} {n : String} (hg : Gl X x) (hm : X.mg x = none) (hv : bootBuiltins x = some (.type n)) (hn : x ≠ "__name__") (hd : (x == ("__debug__" : Str)) = false) : PE X (.Name x pos) (tE X.K X.mg T W (.con (.ty n))) :=
  PE.imp (pe_bltn (v := .ty n) hg hm hv rfl hn hd) fun _ _ _ h => con_imp (d := .ty n) (v := .ty n) (fun _ _ _ => rfl) h
theorem m_neg (ha : PE X a (tE X.K X.mg T W ca)) : PE X (.UnaryOp .USub a pos) (tE X.K X.mg T W (.neg ca)) :=
  PE.imp (pe_un un_neg ha) fun σ H Q h => by
    obtain ⟨ι, Z, Zf, μ, δ, g, sr, hp⟩ := h
    refine ⟨ι, Z, Zf, μ, δ, g, sr, post.bind hp fun x μ1 ι1 v H1 e1 g1 r1 hp1 => ?_⟩
    cases x with
    | int i => exact ⟨i, r1, post.ret hp1 g1 rfl⟩
    | _ => exact hp1.elim
theorem m_notV (ha : PE X a (tE X.K X.mg T W ca)) : PE X (.UnaryOp .Not a pos) (tE X.K X.mg T W (.not_ ca)) :=
  PE.imp (pe_not ha) fun σ H Q h => by
    obtain ⟨ι, Z, Zf, μ, δ, g, sr, hp⟩ := h
    refine ⟨ι, Z, Zf, μ, δ, g, sr, post.bind hp fun x μ1 ι1 v H1 e1 g1 r1 hp1 => ?_⟩
    cases x with
    | bl i => exact ⟨i, r1, post.ret hp1 g1 rfl⟩
    | _ => exact hp1.elim
/-- not of a thing that is true or not -/
theorem m_nott {x : Str} {px : Pos} (ha : PE X (.Name x px) (tE X.K X.mg T W ca)) : PE X (.UnaryOp .Not (.Name x px) pos) (tE X.K X.mg T W (.nott ca)) :=
  PE.imp (pe_notT ha) fun σ H Q h => by
    obtain ⟨ι, Z, Zf, μ, δ, g, sr, hp⟩ := h
    refine ⟨ι, Z, Zf, μ, δ, g, sr, post.bind hp fun x μ1 ι1 v H1 e1 g1 r1 hp1 => ?_⟩
    cases x with
    | bl i =>
      have r1' : v = V.bl i := r1
      subst r1'
      exact ⟨i, rfl, post.ret hp1 g1 rfl⟩
    | int i =>
      have r1' : v = V.int i := r1
      subst r1'
      exact ⟨!(i == 0), rfl, post.ret hp1 g1 rfl⟩
    | _ => exact hp1.elim
theorem m_andV {rest : List Expr} (ha : PE X a (tE X.K X.mg T W ca)) (hb : PE X (.BoolOp .And (b :: rest) pos) (tE X.K X.mg T W cb)) : PE X (.BoolOp .And (a :: b :: rest) pos) (tE X.K X.mg T W (.and_ ca cb)) :=
  PE.imp (pe_and ha hb) fun σ H Q h => by
    obtain ⟨ι, Z, Zf, μ, δ, g, sr, hp⟩ := h
    refine ⟨ι, Z, Zf, μ, δ, g, sr, post.bind hp fun x μ1 ι1 v H1 e1 g1 r1 hp1 => ?_⟩
    cases x with
    | bl i =>
      refine ⟨i, r1, ?_⟩
      cases i with
      | true => exact iteT ⟨ι1, Z, Zf, μ1, δ, g1, sr.ext g e1, hp1⟩
      | false => exact iteF (post.ret hp1 g1 rfl)
    | _ => exact hp1.elim
theorem m_orV {rest : List Expr} (ha : PE X a (tE X.K X.mg T W ca)) (hb : PE X (.BoolOp .Or (b :: rest) pos) (tE X.K X.mg T W cb)) : PE X (.BoolOp .Or (a :: b :: rest) pos) (tE X.K X.mg T W (.or_ ca cb)) :=
  PE.imp (pe_or ha hb) fun σ H Q h => by
    obtain ⟨ι, Z, Zf, μ, δ, g, sr, hp⟩ := h
    refine ⟨ι, Z, Zf, μ, δ, g, sr, post.bind hp fun x μ1 ι1 v H1 e1 g1 r1 hp1 => ?_⟩
    cases x with
    | bl i =>
      refine ⟨i, r1, ?_⟩
      cases i with
      | true => exact iteT (post.ret hp1 g1 rfl)
      | false => exact iteF ⟨ι1, Z, Zf, μ1, δ, g1, sr.ext g e1, hp1⟩
    | _ => exact hp1.elim
/-! ### tests -/
theorem m_val {e : Expr} {ce : E} (h : PE X e (tE X.K X.mg T W ce)) (he : ∀ whole, isTrue e X.env whole = (do let v ← whole; standAt e.pos; holding [v] (truthy v))) : PT X e (tT X.K X.mg T W ce) :=
  PT.imp (pt_val h he) fun _ _ _ q => E2T q
theorem m_cmpT {op : CmpOp} {o : Op} (ho : OpR X (compareOp op) (r2 X.K X.mg T o)) (ha : PE X a (tE X.K X.mg T W ca)) (hb : PE X b (tE X.K X.mg T W cb)) (hm : behindInMarks op b = false) : PT X (.Compare a [op] [b] pos) (tT X.K X.mg T W (.op o ca cb)) :=
  PT.imp (pt_cmpR ho ha hb hm) fun _ _ _ q => to_op (E2T q)
theorem to_chain {o o' : Op} {σ : L2.St} {H : Hp} {Q : VK} (h : tE X.K X.mg T W (.chain o o' ca cb cc) σ H Q) : tChain (r2 X.K X.mg T o) (r2 X.K X.mg T o') (tE X.K X.mg T W ca) (tE X.K X.mg T W cb) (tE X.K X.mg T W cc) σ H Q := by
  obtain ⟨ι, Z, Zf, μ, δ, g, sr, hp⟩ := h
  refine ⟨ι, Z, Zf, μ, δ, g, sr, post.bind hp fun x μ1 ι1 v H1 e1 g1 r1 hp1 => ?_⟩
  refine ⟨ι1, Z, Zf, μ1, δ, g1, sr.ext g e1, post.bind hp1 fun y μ2 ι2 w H2 e2 g2 r2 hp2 => ?_⟩
  unfold optR at hp2
  cases ho : o.do μ2 x y with
  | none => rw [ho] at hp2; exact hp2.elim
  | some r =>
    rw [ho] at hp2
    simp only [Option.bind_some, bindR] at hp2
    refine ⟨ι2, Z, μ2, x, y, r, g2, r1.ext0 e2, r2, ho, fun ι3 z H3 e3 g3 r3 => ?_⟩
    cases r with
    | bl k =>
      refine ⟨k, r3, ?_⟩
      cases k with
      | true =>
        refine iteT ⟨ι3, Z, Zf, μ2, δ, g3, (sr.ext g (e1.trans0 e2)).ext g2 e3, post.bind (hp2.mono e3) fun u μ4 ι4 t H4 e4 g4 r4 hp4 => ?_⟩
        cases ho' : o'.do μ4 y u with
        | none => simp only [optR, ho'] at hp4; exact hp4.elim
        | some r' =>
          simp only [optR, ho', Option.bind_some] at hp4
          exact ⟨ι4, Z, μ4, y, u, r', g4, (r2.ext0 e3).ext0 e4, r4, ho', hp4⟩
      | false => exact iteF (post.ret (hp2.mono e3) g3 rfl)
    | _ => exact hp2.elim
theorem m_chain {op op' : CmpOp} {o o' : Op} (ho : OpR X (compareOp op) (r2 X.K X.mg T o)) (ho' : OpR X (compareOp op') (r2 X.K X.mg T o')) (ha : PE X a (tE X.K X.mg T W ca)) (hb : PE X b (tE X.K X.mg T W cb)) (hc : PE X c (tE X.K X.mg T W cc)) (hm : lastMarks [op, op'] [b, c] = false) :
    PE X (.Compare a [op, op'] [b, c] pos) (tE X.K X.mg T W (.chain o o' ca cb cc)) := PE.imp (pe_chain ho ho' ha hb hc hm) fun _ _ _ q => to_chain q
theorem m_chainT {op op' : CmpOp} {o o' : Op} (ho : OpR X (compareOp op) (r2 X.K X.mg T o)) (ho' : OpR X (compareOp op') (r2 X.K X.mg T o')) (ha : PE X a (tE X.K X.mg T W ca)) (hb : PE X b (tE X.K X.mg T W cb)) (hc : PE X c (tE X.K X.mg T W cc)) (hm : lastMarks [op, op'] [b, c] = false) :
    PT X (.Compare a [op, op'] [b, c] pos) (tT X.K X.mg T W (.chain o o' ca cb cc)) := PT.imp (pt_chain ho ho' ha hb hc hm) fun _ _ _ q => to_chain (E2T q)
theorem evT_and (ca cb : E) (δ : List Sl) (μ : List Mo) : evT (.and_ ca cb) δ μ = bindR (evT ca δ μ) fun k μ => if k = true then evT cb δ μ else retR false μ := by
  unfold evT
  simp only [ev]
  cases h : ev ca δ μ with
  | none => rfl
  | some r =>
    obtain ⟨r, μ1⟩ := r
    cases r with
    | error e => rfl
    | ok d => cases d with
      | bl k => cases k <;> rfl
      | _ => rfl
theorem evT_or (ca cb : E) (δ : List Sl) (μ : List Mo) : evT (.or_ ca cb) δ μ = bindR (evT ca δ μ) fun k μ => if k = true then retR true μ else evT cb δ μ := by
  unfold evT
  simp only [ev]
  cases h : ev ca δ μ with
  | none => rfl
  | some r =>
    obtain ⟨r, μ1⟩ := r
    cases r with
    | error e => rfl
    | ok d => cases d with
      | bl k => cases k <;> rfl
      | _ => rfl
theorem evT_not (ca : E) (δ : List Sl) (μ : List Mo) : evT (.not_ ca) δ μ = bindR (evT ca δ μ) fun k μ => retR (!k) μ := by
  unfold evT
  simp only [ev]
  cases h : ev ca δ μ with
  | none => rfl
  | some r =>
    obtain ⟨r, μ1⟩ := r
    cases r with
    | error e => rfl
    | ok d => cases d with
      | bl k => cases k <;> rfl
      | _ => rfl
theorem m_andT1 (ha : PT X a (tT X.K X.mg T W ca)) : PW X (.BoolOp .And [a] pos) (tT X.K X.mg T W ca) := pw_and1 ha
theorem m_orT1 (ha : PT X a (tT X.K X.mg T W ca)) : PW X (.BoolOp .Or [a] pos) (tT X.K X.mg T W ca) := pw_or1 ha
theorem m_andT {rest : List Expr} (ha : PT X a (tT X.K X.mg T W ca)) (hb : PW X (.BoolOp .And (b :: rest) pos) (tT X.K X.mg T W cb)) : PW X (.BoolOp .And (a :: b :: rest) pos) (tT X.K X.mg T W (.and_ ca cb)) :=
  PW.imp (pw_and ha hb) fun σ H Q h => by
    obtain ⟨ι, Z, Zf, μ, δ, g, sr, hp⟩ := h
    rw [evT_and] at hp
    refine ⟨ι, Z, Zf, μ, δ, g, sr, post.bind hp fun k μ1 ι1 k' H1 e1 g1 r1 hp1 => ?_⟩
    subst r1
    cases k with
    | true => exact iteT ⟨ι1, Z, Zf, μ1, δ, g1, sr.ext g e1, hp1⟩
    | false => exact iteF (post.ret hp1 g1 rfl)
theorem m_orT {rest : List Expr} (ha : PT X a (tT X.K X.mg T W ca)) (hb : PW X (.BoolOp .Or (b :: rest) pos) (tT X.K X.mg T W cb)) : PW X (.BoolOp .Or (a :: b :: rest) pos) (tT X.K X.mg T W (.or_ ca cb)) :=
  PW.imp (pw_or ha hb) fun σ H Q h => by
    obtain ⟨ι, Z, Zf, μ, δ, g, sr, hp⟩ := h
    rw [evT_or] at hp
    refine ⟨ι, Z, Zf, μ, δ, g, sr, post.bind hp fun k μ1 ι1 k' H1 e1 g1 r1 hp1 => ?_⟩
    subst r1
    cases k with
    | true => exact iteT (post.ret hp1 g1 rfl)
    | false => exact iteF ⟨ι1, Z, Zf, μ1, δ, g1, sr.ext g e1, hp1⟩
theorem evT_nott (ca : E) (δ : List Sl) (μ : List Mo) : evT (.nott ca) δ μ = bindR (ev ca δ μ) fun d μ => optR ((truD d).map (!·)) μ := by
  unfold evT
  simp only [ev]
  cases h : ev ca δ μ with
  | none => rfl
  | some r =>
    obtain ⟨r, μ1⟩ := r
    cases r with
    | error e => rfl
    | ok d => cases d with
      | bl k => rfl
      | int k => rfl
      | _ => rfl
theorem m_nottT {x : Str} {px : Pos} (ha : PE X (.Name x px) (tE X.K X.mg T W ca)) : PT X (.UnaryOp .Not (.Name x px) pos) (tT X.K X.mg T W (.nott ca)) :=
  PT.imp (pt_not (pt_truth ha (fun _ => rfl))) fun σ H Q h => by
    obtain ⟨ι, Z, Zf, μ, δ, g, sr, hp⟩ := h
    rw [evT_nott] at hp
    refine ⟨ι, Z, Zf, μ, δ, g, sr, post.bind hp fun d μ1 ι1 v H1 e1 g1 r1 hp1 => ?_⟩
    cases d with
    | bl i =>
      have r1' : v = V.bl i := r1
      subst r1'
      exact ⟨i, rfl, post.ret hp1 g1 rfl⟩
    | int i =>
      have r1' : v = V.int i := r1
      subst r1'
      exact ⟨!(i == 0), rfl, post.ret hp1 g1 rfl⟩
    | _ => exact hp1.elim
theorem m_notT (ha : PT X a (tT X.K X.mg T W ca)) : PT X (.UnaryOp .Not a pos) (tT X.K X.mg T W (.not_ ca)) :=
  PT.imp (pt_not ha) fun σ H Q h => by
    obtain ⟨ι, Z, Zf, μ, δ, g, sr, hp⟩ := h
    rw [evT_not] at hp
    refine ⟨ι, Z, Zf, μ, δ, g, sr, post.bind hp fun k μ1 ι1 k' H1 e1 g1 r1 hp1 => ?_⟩
    subst r1
    exact post.ret hp1 g1 rfl
theorem m_ite (hc : PT X c (tT X.K X.mg T W cc)) (ha : PE X a (tE X.K X.mg T W ca)) (hb : PE X b (tE X.K X.mg T W cb)) : PE X (.IfExp c a b pos) (tE X.K X.mg T W (.ite cc ca cb)) :=
  PE.imp (pe_ifExp hc ha hb) fun σ H Q h => by
    obtain ⟨ι, Z, Zf, μ, δ, g, sr, hp⟩ := h
    have e : ev (.ite cc ca cb) δ μ = bindR (evT cc δ μ) fun k μ => if k = true then ev ca δ μ else ev cb δ μ := by
      unfold evT
      simp only [ev]
      cases h : ev cc δ μ with
      | none => rfl
      | some r =>
        obtain ⟨r, μ1⟩ := r
        cases r with
        | error e => rfl
        | ok d => cases d with
          | bl k => cases k <;> rfl
          | _ => rfl
    rw [e] at hp
    refine ⟨ι, Z, Zf, μ, δ, g, sr, post.bind hp fun k μ1 ι1 k' H1 e1 g1 r1 hp1 => ?_⟩
    subst r1
    cases k with
    | true => exact iteT ⟨ι1, Z, Zf, μ1, δ, g1, sr.ext g e1, hp1⟩
    | false => exact iteF ⟨ι1, Z, Zf, μ1, δ, g1, sr.ext g e1, hp1⟩
/-! ### items, slices, displays -/
theorem m_idx (hw : T.w = X.w) (hu : X.A.units + 9 < cLine) (ha : PE X a (tE X.K X.mg T W ca)) (hb : PE X b (tE X.K X.mg T W cb)) (hs : PlainIx b) : PE X (.Subscript a b pos) (tE X.K X.mg T W (.idx ca cb)) :=
  PE.imp (pe_ix (ix_ok (T := T) hw hu) ha hb hs) fun σ H Q h => by
    obtain ⟨ι, Z, Zf, μ, δ, g, sr, hp⟩ := h
    refine ⟨ι, Z, Zf, μ, δ, g, sr, post.bind hp fun x μ1 ι1 v H1 e1 g1 r1 hp1 => ?_⟩
    refine ⟨ι1, Z, Zf, μ1, δ, g1, sr.ext g e1, post.bind hp1 fun y μ2 ι2 w H2 e2 g2 r2 hp2 => ?_⟩
    unfold optR at hp2
    cases ho : ixD μ2 x y with
    | none => rw [ho] at hp2; exact hp2.elim
    | some r =>
      rw [ho] at hp2
      exact ⟨ι2, Z, μ2, x, y, r, g2, r1.ext0 e2, r2, ho, hp2⟩
theorem m_lidx {i : Nat} {x : Str} {p : Pos} (hN : X.N[i]? = some x) (hv : Vis X.env.scope x) (hd : (x == ("__debug__" : Str)) = false) (hcd : (x == ("__classdict__" : Str)) = false) (hb : PE X b (tE X.K X.mg T W cb)) (hs : PlainIx b) :
    PE X (.Subscript (.Name x p) b pos) (tE X.K X.mg T W (.lidx i cb)) :=
  PE.imp (pe_ix ix_list (pe_var hN hv hd hcd) hb hs) fun σ H Q h => by
    obtain ⟨ι, Z, Zf, μ, δ, g, sr, hp⟩ := h
    simp only [ev] at hp
    split at hp
    · rename_i xs e
      obtain ⟨a, vs, h1, h2, h3, h4⟩ := sr.ok i _ e
      refine ⟨.ref a, h1, ι, Z, Zf, μ, δ, g, sr, post.bind hp fun y μ1 ι1 v H1 e1 g1 r1 hp1 => ?_⟩
      cases y with
      | int j =>
        simp only [optR] at hp1
        cases ho : L2.atI xs j with
        | none => rw [ho] at hp1; exact hp1.elim
        | some r =>
          rw [ho] at hp1
          obtain ⟨w, h5, h6⟩ := (h4.ext0 e1).atI ho
          have := e1.keep a _ h3 (g.zl a (sr.sub a h2)).2 (by simp) (fun _ z => by cases z)
          exact ⟨a, vs, j, w, rfl, r1, SqL.of this, h5, post.ret hp1 g1 h6⟩
      | _ => exact hp1.elim
    · exact hp.elim
theorem m_no : PO X none (tR X.K X.mg T W (fun _ _ _ (a b : Option Int) => a = b) (evo .no)) := ⟨fun pins s σ H Q I h => po_none.run pins s σ H Q I (by
  obtain ⟨ι, Z, Zf, μ, δ, g, sr, hp⟩ := h
  simp only [evo] at hp
  exact post.ret hp g rfl)⟩
theorem m_yes (ha : PE X a (tE X.K X.mg T W ca)) : PO X (some a) (tR X.K X.mg T W (fun _ _ _ (a b : Option Int) => a = b) (evo (.yes ca))) := ⟨fun pins s σ H Q I h => (po_some ha).run pins s σ H Q I (by
  obtain ⟨ι, Z, Zf, μ, δ, g, sr, hp⟩ := h
  simp only [evo] at hp
  refine ⟨ι, Z, Zf, μ, δ, g, sr, post.bind hp fun x μ1 ι1 v H1 e1 g1 r1 hp1 => ?_⟩
  cases x with
  | int i => exact ⟨i, r1, post.ret hp1 g1 rfl⟩
  | _ => exact hp1.elim)⟩
theorem m_slc {lo hi : Option Expr} {cl ch : Eo} {p2 : Pos} (ha : PE X a (tE X.K X.mg T W ca)) (hl : PO X lo (tR X.K X.mg T W (fun _ _ _ (a b : Option Int) => a = b) (evo cl))) (hh : PO X hi (tR X.K X.mg T W (fun _ _ _ (a b : Option Int) => a = b) (evo ch))) :
    PE X (.Subscript a (.Slice lo hi none p2) pos) (tE X.K X.mg T W (.slc ca cl ch)) :=
  PE.imp (pe_slice (sl_ok (T := T)) ha hl hh) fun σ H Q h => by
    obtain ⟨ι, Z, Zf, μ, δ, g, sr, hp⟩ := h
    refine ⟨ι, Z, Zf, μ, δ, g, sr, post.bind hp fun x μ1 ι1 v H1 e1 g1 r1 hp1 => ?_⟩
    refine ⟨ι1, Z, Zf, μ1, δ, g1, sr.ext g e1, post.bind hp1 fun l μ2 ι2 l' H2 e2 g2 r2 hp2 => ?_⟩
    subst r2
    refine ⟨ι2, Z, Zf, μ2, δ, g2, (sr.ext g e1).ext g1 e2, post.bind hp2 fun u μ3 ι3 u' H3 e3 g3 r3 hp3 => ?_⟩
    subst r3
    unfold optR at hp3
    cases ho : slD μ3 x l u with
    | none => rw [ho] at hp3; exact hp3.elim
    | some r =>
      rw [ho] at hp3
      exact ⟨ι3, Z, μ3, x, r, g3, (r1.ext0 e2).ext0 e3, ho, hp3⟩
/-! ### argument lists, displays -/
theorem m_nil : PA X [] (tEs X.K X.mg T W .nil) := PA.imp pa_nil fun σ H Q h => by
  obtain ⟨ι, Z, Zf, μ, δ, g, sr, hp⟩ := h
  simp only [evs] at hp
  exact post.ret hp g (show Rps X.K X.mg ι Z H [] [] from rfl)
theorem m_cons {es : List Expr} {ces : Es} (ha : PE X a (tE X.K X.mg T W ca)) (hr : PA X es (tEs X.K X.mg T W ces)) (hs : starEach (a :: es) X.env = (false, eval a X.env) :: starEach es X.env) : PA X (a :: es) (tEs X.K X.mg T W (.cons ca ces)) :=
  PA.imp (pa_cons ha hr hs) fun σ H Q h => by
    obtain ⟨ι, Z, Zf, μ, δ, g, sr, hp⟩ := h
    simp only [evs] at hp
    refine ⟨ι, Z, Zf, μ, δ, g, sr, post.bind hp fun x μ1 ι1 v H1 e1 g1 r1 hp1 => ?_⟩
    refine ⟨ι1, Z, Zf, μ1, δ, g1, sr.ext g e1, post.bind hp1 fun xs μ2 ι2 vs H2 e2 g2 r2 hp2 => ?_⟩
    exact post.ret hp2 g2 (show Rps X.K X.mg ι2 Z H2 (x :: xs) (v :: vs) from ⟨v, vs, rfl, r1.ext0 e2, r2⟩)
theorem m_tup {es : List Expr} {ces : Es} {k} (h : PA X es (tEs X.K X.mg T W ces)) : PE X (.Tuple es k pos) (tE X.K X.mg T W (.tup ces)) :=
  PE.imp (pe_tup h) fun σ H Q h => by
    obtain ⟨ι, Z, Zf, μ, δ, g, sr, hp⟩ := h
    refine ⟨ι, Z, Zf, μ, δ, g, sr, post.bind hp fun xs μ1 ι1 vs H1 e1 g1 r1 hp1 => ?_⟩
    split at hp1
    · rename_i hz
      exact ⟨by rw [← r1.length]; exact hz, fun p hn => hp1 ι1 _ _ (ext_fresh hn) (g1.fresh hn) (Rp.newT hn r1)⟩
    · exact hp1.elim
theorem m_lst {es : List Expr} {ces : Es} (h : PA X es (tEs X.K X.mg T W ces)) : PE X (.List es pos) (tE X.K X.mg T W (.lst ces)) :=
  PE.imp (pe_lst h) fun σ H Q h => by
    obtain ⟨ι, Z, Zf, μ, δ, g, sr, hp⟩ := h
    refine ⟨ι, Z, Zf, μ, δ, g, sr, post.bind hp fun xs μ1 ι1 vs H1 e1 g1 r1 hp1 => ?_⟩
    split at hp1
    · rename_i hz
      exact ⟨by rw [← r1.length]; exact hz, fun p hn => hp1 ι1 _ _ (ext_fresh hn) (g1.fresh hn) (Rp.newL g1 hn r1)⟩
    · exact hp1.elim
/-- a new changeable thing -/
theorem ext_more {ι : List Addr} {H : Hp} {p : Addr} {o : HO} (hp : H p = none) : Ext ι [] H (ι ++ [p]) (upd H p o) := by
  have e : Ext ι [] H ι (upd H p o) := ext_fresh hp
  exact ⟨⟨[p], rfl, fun q hq => by rw [List.mem_singleton.mp hq]; exact hp⟩, e.keep, e.there, e.tups⟩
theorem RG.more {K : PySem.W.Frag} {mg : Str → Option Value} {ι Z : List Addr} {H : Hp} {μ : List Mo} (g : RG K mg T ι Z H μ) {p : Addr} {o : HO} {m : Mo} (hp : H p = none) (hm : RpM T.w K mg (ι ++ [p]) Z (upd H p o) p m) : RG K mg T (ι ++ [p]) Z (upd H p o) (μ ++ [m]) := by
  have g1 : RG K mg T ι Z (upd H p o) μ := g.fresh hp
  have np := g.notin hp
  have e := ext_more (ι := ι) (o := o) hp
  refine ⟨?_, by simp [g.len], fun n m' h => ?_, fun z hz => ⟨(g1.zl z hz).1, fun q => ?_⟩, g1.tabs⟩
  · rw [List.nodup_append]
    refine ⟨g.nd, by simp, fun a ha b hb => ?_⟩
    rw [List.mem_singleton.mp hb]
    exact fun q => np.1 (q ▸ ha)
  · by_cases hn : n < μ.length
    · rw [List.getElem?_append_left hn] at h
      obtain ⟨a, h1, h2⟩ := g.mem n m' h
      obtain ⟨u, q, _⟩ := h2.at
      refine ⟨a, by rw [List.getElem?_append_left (by rw [g.len]; exact hn)]; exact h1, h2.ext (Zf := []) e (by simp) (fun _ z => .inl z) (upd_ne (ne_of_none q hp))⟩
    · have hn2 : n = μ.length := by
        have := (List.getElem?_eq_some_iff.mp h).1
        simp at this; omega
      subst hn2
      rw [List.getElem?_append_right (Nat.le_refl _)] at h
      simp at h
      subst h
      exact ⟨p, by rw [← g.len]; simp, hm⟩
  · rcases List.mem_append.mp q with q | q
    · exact (g.zl z hz).2 q
    · rw [List.mem_singleton.mp q] at hz
      exact np.2 hz
theorem m_mlst {es : List Expr} {ces : Es} (h : PA X es (tEs X.K X.mg T W ces)) : PE X (.List es pos) (tE X.K X.mg T W (.mlst ces)) :=
  PE.imp (pe_lst h) fun σ H Q h => by
    obtain ⟨ι, Z, Zf, μ, δ, g, sr, hp⟩ := h
    refine ⟨ι, Z, Zf, μ, δ, g, sr, post.bind hp fun xs μ1 ι1 vs H1 e1 g1 r1 hp1 => ?_⟩
    split at hp1
    · rename_i hz
      refine ⟨by rw [← r1.length]; exact hz, fun p hn => hp1 _ _ _ (ext_more hn) (g1.more hn ⟨vs, upd_same, r1.ext0 (ext_more hn)⟩) ⟨p, rfl, ?_⟩⟩
      rw [← g1.len]; simp
    · exact hp1.elim
theorem m_lrng {p pos' pos : Pos} (hc : X.calm = true) (hg : Gl X "list") (hm : X.mg "list" = none) (hg2 : Gl X "range") (hm2 : X.mg "range" = none) (ha : PE X a (tE X.K X.mg T W ca)) (na : starEach [a] X.env = (false, eval a X.env) :: starEach [] X.env) {p2 : Pos} :
    PE X (.Call (.Name "list" p) [.Call (.Name "range" p2) [a] [] pos'] [] pos) (tE X.K X.mg T W (.lrng ca)) :=
  PE.imp (pe_listRg hc hg hm (prg_1 hg2 hm2 ha na)) fun σ H Q h => by
    obtain ⟨ι, Z, Zf, μ, δ, g, sr, hp⟩ := h
    refine ⟨ι, Z, Zf, μ, δ, g, sr, post.bind hp fun x μ1 ι1 v H1 e1 g1 r1 hp1 => ?_⟩
    cases x with
    | int j =>
      simp only at hp1
      split at hp1
      · rename_i hj
        simp only [Bool.and_eq_true, decide_eq_true_eq] at hj
        refine ⟨j, r1, ⟨by omega, by omega, by omega, by omega, by omega⟩, fun q hq => ?_⟩
        refine hp1 ι1 _ _ (ext_fresh hq) (g1.fresh hq) (Rp.newL g1 hq ?_)
        have e : rgD 0 j = ((List.range (j - 0).toNat).map fun (i : Nat) => (0 : Int) + i).map D.int := by
          unfold rgD; rw [List.map_map]; rfl
        have e2 : rgV 0 j = ((List.range (j - 0).toNat).map fun (i : Nat) => (0 : Int) + i).map V.int := by
          unfold rgV; rw [List.map_map]; rfl
        rw [e, e2]
        exact Rps.ints _
      · exact hp1.elim
    | _ => exact hp1.elim
/-! ### calls -/
theorem m_bi {f : Bi} {x : Str} {id : String} {e : Expr} {es : List Expr} {ces : Es} {p : Pos} (hc : CallR X (.builtin id) (rb X.K X.mg T f)) (hg : Gl X x) (hm : X.mg x = none) (hv : bootBuiltins x = some (.builtin id)) (ha : PA X (e :: es) (tEs X.K X.mg T W ces)) (hn : x ≠ "__name__") (hdb : (x == ("__debug__" : Str)) = false)
    (he : starEach (e :: es) X.env = (false, eval e X.env) :: starEach es X.env) (hpl : (backTo pos (starEach es X.env)).any (·.1) = false) : PE X (.Call (.Name x p) (e :: es) [] pos) (tE X.K X.mg T W (.bi f ces)) :=
  PE.imp (pe_callB hc hg hm hv ha hn hdb he hpl) fun σ H Q h => by
    obtain ⟨ι, Z, Zf, μ, δ, g, sr, hp⟩ := h
    refine ⟨ι, Z, Zf, μ, δ, g, sr, post.bind hp fun xs μ1 ι1 vs H1 e1 g1 r1 hp1 => ?_⟩
    unfold optR at hp1
    cases ho : f.do μ1 xs with
    | none => rw [ho] at hp1; exact hp1.elim
    | some r => rw [ho] at hp1; exact ⟨ι1, Z, μ1, xs, r, g1, r1, ho, hp1⟩
theorem m_biT {f : Bi} {x : Str} {id : String} {e : Expr} {es : List Expr} {ces : Es} {p : Pos} (hc : CallR X (.type id) (rb X.K X.mg T f)) (hg : Gl X x) (hm : X.mg x = none) (hv : bootBuiltins x = some (.type id)) (ha : PA X (e :: es) (tEs X.K X.mg T W ces)) (hn : x ≠ "__name__") (hdb : (x == ("__debug__" : Str)) = false)
    (he : starEach (e :: es) X.env = (false, eval e X.env) :: starEach es X.env) (hpl : (backTo pos (starEach es X.env)).any (·.1) = false) : PE X (.Call (.Name x p) (e :: es) [] pos) (tE X.K X.mg T W (.bi f ces)) :=
  PE.imp (pe_callTy hc hg hm hv ha hn hdb he hpl) fun σ H Q h => by
    obtain ⟨ι, Z, Zf, μ, δ, g, sr, hp⟩ := h
    refine ⟨ι, Z, Zf, μ, δ, g, sr, post.bind hp fun xs μ1 ι1 vs H1 e1 g1 r1 hp1 => ?_⟩
    unfold optR at hp1
    cases ho : f.do μ1 xs with
    | none => rw [ho] at hp1; exact hp1.elim
    | some r => rw [ho] at hp1; exact ⟨ι1, Z, μ1, xs, r, g1, r1, ho, hp1⟩
end
/-- what a def promises: it does what F does -/
def spF (K : PySem.W.Frag) (mg : Str → Option Value) (T : TW) (n : Nat) (F : Sem) : Sp := fun vs H Q E => vs.length = n ∧ ∃ ι Z μ ds, RG K mg T ι Z H μ ∧ Rps K mg ι Z H ds vs ∧ post K mg T (Rp K mg) ι Z H (F ds μ) Q E
section
variable {X : Cx} {T : TW} {W : WX} {a b c : Expr} {ca cb cc : E} {pos : Pos}
theorem m_call {x : Str} {e : Expr} {es : List Expr} {ces : Es} {F : Sem} {n k : Nat} {f : Addr} {fd : FuncData} {ps : List Str} {p : Pos} (FO : FnOk X.prog X.w X.K X.mg X.base (L2N.CX X.prog X.w) k f fd ps (spF X.K X.mg T n F)) (hr : Room k X.A) (hg : Gl X x) (hm : X.mg x = some (.ref f))
    (hk : PySem.W.keepIn X.K (.ref f) = true) (hb : Binds X.K fd ps []) (tk : L2N.Takes X W) (hn : es.length + 1 = n) (ha : PA X (e :: es) (tEs X.K X.mg T W ces)) (hdb : (x == ("__debug__" : Str)) = false)
    (he : starEach (e :: es) X.env = (false, eval e X.env) :: starEach es X.env) (hpl : (backTo pos (starEach es X.env)).any (·.1) = false) (hl : ∀ δ μ xs μ', evs ces δ μ = some (.ok xs, μ') → xs.length = n) :
    PE X (.Call (.Name x p) (e :: es) [] pos) (tE X.K X.mg T W (.call F ces)) :=
  PE.imp (pe_callS (E := WE W) FO hr hg hm hk hb (fun σ => L2N.passAt tk σ) ha hdb he hpl) fun σ H Q h => by
    obtain ⟨ι, Z, Zf, μ, δ, g, sr, hp⟩ := h
    have hp0 : post X.K X.mg T (Rp X.K X.mg) ι Z H (bindR (evs ces δ μ) fun xs μ => F xs μ) Q (WS W σ) := hp
    refine ⟨ι, Z, Zf, μ, δ, g, sr, ?_⟩
    cases hx : evs ces δ μ with
    | none => rw [hx] at hp0; exact hp0.elim
    | some r =>
      obtain ⟨r, μ1⟩ := r
      cases r with
      | error e => rw [hx] at hp0; exact hp0
      | ok xs =>
        rw [hx] at hp0
        have ln := hl _ _ _ _ hx
        exact fun ι1 vs H1 e1 g1 r1 => ⟨by rw [← r1.length]; exact ln, ι1, Z, μ1, xs, g1, r1, hp0.mono e1⟩
end
end Mi
set_option Elab.async false
set_option linter.all false
set_option maxRecDepth 100000
set_option maxHeartbeats 4000000
/-! Msb: [e] * k as a changeable list; a dict with written text keys. -/
namespace Mi
open PySem PySem.Spec PyProof.Rows L2
section
variable {X : Cx} {T : TW} {W : WX} {a b : Expr} {ca cb : E} {pos : Pos}
theorem rep1 {α : Type} (n : Nat) (x : α) : (List.replicate n [x]).flatten = List.replicate n x := by
  induction n with
  | zero => rfl
  | succ n ih => rw [List.replicate_succ, List.flatten_cons, ih]; rfl
theorem Rps.repl {K : PySem.W.Frag} {mg : Str → Option Value} {ι Z : List Addr} {H : Hp} {d : D} {v : V} (h : Rp K mg ι Z H d v) : ∀ n : Nat, Rps K mg ι Z H (List.replicate n d) (List.replicate n v)
  | 0 => rfl
  | n + 1 => ⟨v, _, rfl, h, Rps.repl h n⟩
theorem m_mrep {p : Pos} (ha : PE X a (tE X.K X.mg T W ca)) (hb : PE X b (tE X.K X.mg T W cb)) (hs : starEach [a] X.env = (false, eval a X.env) :: starEach [] X.env) : PE X (.BinOp (.List [a] p) .Mult b pos) (tE X.K X.mg T W (.mrep ca cb)) :=
  PE.imp (pe_op op_rep (pe_lst (pa_cons ha pa_nil hs)) hb) fun σ H Q h => by
    obtain ⟨ι, Z, Zf, μ, δ, g, sr, hp⟩ := h
    refine ⟨ι, Z, Zf, μ, δ, g, sr, post.bind hp fun x μ1 ι1 v H1 e1 g1 r1 hp1 => ⟨by show 1 ≤ sizeLine; decide, fun q hq => ?_⟩⟩
    have e2 : Ext ι1 [] H1 ι1 (upd H1 q (.lst [v])) := ext_fresh hq
    refine ⟨ι1, Z, Zf, μ1, δ, g1.fresh hq, (sr.ext g e1).ext g1 e2, post.bind (hp1.mono e2) fun y μ2 ι2 w H2 e3 g2 r2 hp2 => ?_⟩
    cases y with
    | int j =>
      simp only at hp2
      split at hp2
      · rename_i hc
        simp only [Bool.and_eq_true, decide_eq_true_eq] at hc
        have hv2 : H2 q = some (.lst [v]) := e3.keep q _ upd_same (g1.notin hq).1 (by simp) (fun _ z => by cases z)
        refine ⟨q, j, [v], rfl, r2, hv2, hc.1.1, hc.1.2, by simpa using hc.2, fun p hn => ?_⟩
        have r3 : Rp X.K X.mg ι2 Z H2 x v := (r1.ext0 e2).ext0 e3
        rw [rep1]
        exact hp2 _ _ _ (ext_more hn) (g2.more hn ⟨_, upd_same, (Rps.repl r3 _).ext0 (ext_more hn)⟩) ⟨p, rfl, by rw [← g2.len]; simp⟩
      · exact hp2.elim
    | _ => exact hp2.elim
end
/-! ### a dict -/
section
variable {K : PySem.W.Frag} {mg : Str → Option Value} {T : TW} {ι ι2 Z : List Addr} {H H2 : Hp} {μ μ2 : List Mo} {p : Addr} {kv0 kv1 : List (Key × V)}
theorem ext_dict (hp : H p = none) (e : Ext ι [] (upd H p (.dK kv0)) ι2 H2) : Ext ι [] H (ι2 ++ [p]) (upd H2 p (.dK kv1)) := by
  obtain ⟨l, rfl, h1⟩ := e.ids
  refine ⟨⟨l ++ [p], by rw [List.append_assoc], fun q hq => ?_⟩, fun a o q n1 n2 nt => ?_, fun a o q => ?_, fun a xs q => ?_⟩
  · rcases List.mem_append.mp hq with z | z
    · have := h1 q z
      by_cases e : q = p
      · rw [e]; exact hp
      · rw [upd_ne e] at this; exact this
    · rw [List.mem_singleton.mp z]; exact hp
  · have nap : a ≠ p := ne_of_none q hp
    rw [upd_ne nap]
    exact e.keep a o (by rw [upd_ne nap]; exact q) n1 n2 nt
  · have nap : a ≠ p := ne_of_none q hp
    rw [upd_ne nap]
    exact e.there a o (by rw [upd_ne nap]; exact q)
  · have nap : a ≠ p := ne_of_none q hp
    rw [upd_ne nap]
    exact e.tups a xs (by rw [upd_ne nap]; exact q)
mutual
theorem Rp.dict (hp : H2 p = some (.dK kv0)) : ∀ (d : D) (v : V), Rp K mg ι2 Z H2 d v → Rp K mg (ι2 ++ [p]) Z (upd H2 p (.dK kv1)) d v
  | .non, _, h => h
  | .bl _, _, h => h
  | .int _, _, h => h
  | .str _, _, h => h
  | .ty _, _, h => h
  | .glo _, _, h => h
  | .tup ds, v, h => by
    obtain ⟨a, vs, rfl, h1, h2⟩ := h
    refine ⟨a, vs, rfl, ?_, Rps.dict hp ds vs h2⟩
    rcases h1 with h1 | h1
    · exact .inl (by rw [upd_ne (fun z => by rw [z, hp] at h1; cases h1)]; exact h1)
    · exact .inr h1
  | .lst ds, v, h => by
    obtain ⟨a, vs, rfl, ⟨h1, h2, h3⟩, h4⟩ := h
    have nap : a ≠ p := fun z => by rw [z, hp] at h1; cases h1
    exact ⟨a, vs, rfl, ⟨by rw [upd_ne nap]; exact h1, fun z => (List.mem_append.mp z).elim h2 fun z => nap (List.mem_singleton.mp z), h3⟩, Rps.dict hp ds vs h4⟩
  | .obj n, v, h => by
    obtain ⟨a, rfl, h1⟩ := h
    exact ⟨a, rfl, by rw [List.getElem?_append_left (List.getElem?_eq_some_iff.mp h1).1]; exact h1⟩
  | .scr ns, v, h => by
    obtain ⟨a, rfl, h1⟩ := h
    refine ⟨a, rfl, ?_⟩
    rcases h1 with ⟨h1, h2, h3⟩ | h1
    · have nap : a ≠ p := fun z => by
        rcases h1 with h1 | ⟨o, h1⟩
        · rw [z, hp] at h1; cases h1
        · rw [z, hp] at h1; cases h1
      refine .inl ⟨?_, fun z => (List.mem_append.mp z).elim h2 fun z => nap (List.mem_singleton.mp z), h3⟩
      rcases h1 with h1 | ⟨o, h1⟩
      · exact .inl (by rw [upd_ne nap]; exact h1)
      · exact .inr ⟨o, by rw [upd_ne nap]; exact h1⟩
    · exact .inr h1
theorem Rps.dict (hp : H2 p = some (.dK kv0)) : ∀ (ds : List D) (vs : List V), Rps K mg ι2 Z H2 ds vs → Rps K mg (ι2 ++ [p]) Z (upd H2 p (.dK kv1)) ds vs
  | [], _, h => h
  | d :: ds, vs, h => by
    obtain ⟨v, vs', rfl, h1, h2⟩ := h
    exact ⟨v, vs', rfl, Rp.dict hp d v h1, Rps.dict hp ds vs' h2⟩
end
theorem RpM.dict (hp : H2 p = some (.dK kv0)) {a : Addr} {m : Mo} (ha : a ≠ p) (h : RpM T.w K mg ι2 Z H2 a m) : RpM T.w K mg (ι2 ++ [p]) Z (upd H2 p (.dK kv1)) a m := by
  cases m with
  | lst ds => obtain ⟨vs, h1, h2⟩ := h; exact ⟨vs, by rw [upd_ne ha]; exact h1, Rps.dict hp _ _ h2⟩
  | dct kvs => obtain ⟨vs, h1, h2⟩ := h; exact ⟨vs, by rw [upd_ne ha]; exact h1, Rps.dict hp _ _ h2⟩
  | ins c fs => obtain ⟨C, dx, vs, h0, h1, h2⟩ := h; exact ⟨C, dx, vs, h0, by rw [upd_ne ha]; exact h1, Rps.dict hp _ _ h2⟩
  | dcn kvs =>
    obtain ⟨xs, h1, h2, h3, h4, h5⟩ := h
    exact ⟨xs, by rw [upd_ne ha]; exact h1, h2, h3, NdK.mono (fun b ys q => by rw [upd_ne (fun z => by rw [z, hp] at q; cases q)]; exact q) h4, Rps.dict hp _ _ h5⟩
theorem RG.dict (g : RG K mg T ι2 Z H2 μ2) (hp : H2 p = some (.dK kv0)) (ni : p ∉ ι2) (nz : p ∉ Z) {m : Mo} (hm : RpM T.w K mg (ι2 ++ [p]) Z (upd H2 p (.dK kv1)) p m) : RG K mg T (ι2 ++ [p]) Z (upd H2 p (.dK kv1)) (μ2 ++ [m]) := by
  refine ⟨?_, by simp [g.len], fun n m' h => ?_, fun z hz => ⟨?_, fun q => ?_⟩, fun t ht => ?_⟩
  · rw [List.nodup_append]
    refine ⟨g.nd, by simp, fun a ha b hb => ?_⟩
    rw [List.mem_singleton.mp hb]
    exact fun q => ni (q ▸ ha)
  · by_cases hn : n < μ2.length
    · rw [List.getElem?_append_left hn] at h
      obtain ⟨a, h1, h2⟩ := g.mem n m' h
      refine ⟨a, by rw [List.getElem?_append_left (by rw [g.len]; exact hn)]; exact h1, h2.dict hp fun q => ni (q ▸ List.mem_of_getElem? h1)⟩
    · have hn2 : n = μ2.length := by
        have := (List.getElem?_eq_some_iff.mp h).1
        simp at this
        omega
      subst hn2
      rw [List.getElem?_append_right (Nat.le_refl _)] at h
      simp at h
      subst h
      exact ⟨p, by rw [← g.len, List.getElem?_append_right (Nat.le_refl _)]; simp, hm⟩
  · obtain ⟨us, hu⟩ := (g.zl z hz).1
    exact ⟨us, by rw [upd_ne (fun q => nz (by rw [← q]; exact hz))]; exact hu⟩
  · rcases List.mem_append.mp q with q | q
    · exact (g.zl z hz).2 q
    · exact nz (List.mem_singleton.mp q ▸ hz)
  · obtain ⟨ps, h1, h2, h3⟩ := g.tabs t ht
    refine ⟨ps, ?_, h2, fun pos cv hc => ?_⟩
    · rw [upd_ne (fun z => by rw [z, hp] at h1; cases h1)]; exact h1
    · obtain ⟨c, e1, e2⟩ := h3 pos cv hc
      exact ⟨c, e1, by rw [upd_ne (ne_of e2 hp (by unfold LamX.CodeO; simp))]; exact e2⟩
theorem merge_id : ∀ (kvs acc : List (Key × V)), (acc.map (·.1) ++ kvs.map (·.1)).Nodup → mergeK acc kvs = acc ++ kvs
  | [], acc, _ => by simp [mergeK]
  | q :: kvs, acc, h => by
    have hq : (acc.any fun kv => decide (kv.1 = q.1)) = false := by
      rw [List.any_eq_false]
      intro x hx
      simp only [decide_eq_true_eq]
      intro e
      rw [List.nodup_append] at h
      exact h.2.2 _ (List.mem_map.mpr ⟨x, hx, rfl⟩) _ (by simp) e
    have hp : L2.putK acc q.1 q.2 = acc ++ [q] := by
      unfold L2.putK
      rw [hq]
      rfl
    have := merge_id kvs (acc ++ [q]) (by simpa using h)
    show mergeK (L2.putK acc q.1 q.2) kvs = _
    rw [hp, this]
    simp
end
theorem zip_keys : ∀ (ks : List Str) (vs : List V), (ks.map V.str).zip vs = ((ks.map fun k => (Sum.inr k : Key)).zip vs).map fun kv => (kV kv.1, kv.2)
  | [], _ => rfl
  | _ :: _, [] => rfl
  | k :: ks, v :: vs => by
    simp only [List.map_cons, List.zip_cons_cons, zip_keys ks vs]
    rfl
def trsOf (K : PySem.W.Frag) (mg : Str → Option Value) (T : TW) (W : WX) : List Str → Es → List (TE × TE)
  | k :: ks, .cons e es => (tC (.str k), tE K mg T W e) :: trsOf K mg T W ks es
  | _, _ => []
def lenE : Es → Nat
  | .nil => 0
  | .cons _ es => lenE es + 1
section
variable {X : Cx} {T : TW} {W : WX} {pos : Pos}
theorem trs_run {K : PySem.W.Frag} {mg : Str → Option Value} {σ : L2.St} : ∀ (ks : List Str) (ces : Es), ks.length = lenE ces → ∀ (ι Z Zf : List Addr) (μ : List Mo) (δ : List Sl) (H : Hp) (Q : List V → Hp → Prop) (Qp : List (V × V) → Hp → Prop), (∀ vs H', Q vs H' → Qp ((ks.map V.str).zip vs) H') → RG K mg T ι Z H μ → SR K mg ι Z Zf H δ σ → post K mg T (Rps K mg) ι Z H (evs ces δ μ) Q (WS W σ) →
    tPairs (trsOf K mg T W ks ces) σ H Qp
  | [], .nil, _, ι, Z, Zf, μ, δ, H, Q, Qp, hQ, g, sr, hp => by
    simp only [evs] at hp
    exact hQ [] H (post.ret hp g rfl)
  | k :: ks, .cons e es, hl, ι, Z, Zf, μ, δ, H, Q, Qp, hQ, g, sr, hp => by
    simp only [evs] at hp
    refine ⟨ι, Z, Zf, μ, δ, g, sr, post.bind hp fun x μ1 ι1 v H1 e1 g1 r1 hp1 => ?_⟩
    exact trs_run ks es (by simpa [lenE] using hl) ι1 Z Zf μ1 δ H1 (fun vs H' => Q (v :: vs) H') _ (fun vs H' q => hQ (v :: vs) H' q) g1 (sr.ext g e1) (post.bind hp1 fun xs μ2 ι2 vs H2 e2 g2 r2 hp2 => post.ret hp2 g2 ⟨v, vs, rfl, r1.ext0 e2, r2⟩)
  | [], .cons _ _, hl, _, _, _, _, _, _, _, _, _, _, _, _ => by simp [lenE] at hl
  | _ :: _, .nil, hl, _, _, _, _, _, _, _, _, _, _, _, _ => by simp [lenE] at hl
theorem m_dct {keys : List (Option Expr)} {values : List Expr} {ks : List Str} {ces : Es} (h : PPs X pos keys values (trsOf X.K X.mg T W ks ces)) (hall : keys.all (·.isSome) = true) (hl : keys.length = values.length) (h0 : keys ≠ []) (h15 : keys.length ≤ 15) (hk : ks.length = lenE ces) :
    PE X (.Dict keys values pos) (tE X.K X.mg T W (.dct ks ces)) :=
  PE.imp (pe_disp h hall hl h0 h15) fun σ H Q hh => by
    obtain ⟨ι, Z, Zf, μ, δ, g, sr, hp⟩ := hh
    intro p hn
    have e0 : Ext ι [] H ι (upd H p (.dK [])) := ext_fresh hn
    have g0 : RG X.K X.mg T ι Z (upd H p (.dK [])) μ := g.fresh hn
    have nz := g.notin hn
    simp only [ev] at hp
    refine trs_run (W := W) ks ces hk ι Z Zf μ δ _ (fun vs H2 => H2 p = some (.dK []) ∧ vs.length = ks.length ∧ ks.length ≤ 15 ∧ Q (.ref p) (upd H2 p (.dK (mergeK [] ((ks.map fun k => (Sum.inr k : Key)).zip vs))))) _ (fun vs H2 ⟨e2, e3, e4, q⟩ => ⟨e2, (ks.map fun k => (Sum.inr k : Key)).zip vs, zip_keys ks vs, ?_, q⟩) g0 (sr.ext g e0) ?_
    · rw [List.length_zip, List.length_map]; omega
    · match hq : evs ces δ μ, hp with
      | none, hp => exact hp.elim
      | some (.error x, μ1), hp => exact hp.mono e0
      | some (.ok xs, μ2), hp =>
        intro ι2 vs H2 e g2 r2
        replace hp : post X.K X.mg T (Rp X.K X.mg) ι Z H (if (decide (ks.length = xs.length) && decide (ks.length ≤ 15) && decide ks.Nodup && !ks.isEmpty) = true then retR (.obj μ2.length) (μ2 ++ [.dct (ks.zip xs)]) else none) Q (WS W σ) := hp
        split at hp
        · rename_i hc
          simp only [Bool.and_eq_true, decide_eq_true_eq] at hc
          obtain ⟨⟨⟨c1, c2⟩, c3⟩, c4⟩ := hc
          have hv2 : H2 p = some (.dK []) := e.keep p _ upd_same nz.1 (by simp) (fun _ z => by cases z)
          have ni : p ∉ ι2 := by
            obtain ⟨l, rfl, h1⟩ := e.ids
            intro z
            rcases List.mem_append.mp z with z | z
            · exact nz.1 z
            · have := h1 p z; rw [upd_same] at this; cases this
          have lv : vs.length = ks.length := by rw [c1, r2.length]
          have mk : mergeK [] ((ks.map fun k => (Sum.inr k : Key)).zip vs) = (ks.map fun k => (Sum.inr k : Key)).zip vs := by
            rw [merge_id _ [] ?_]
            · rfl
            · rw [List.map_nil, List.nil_append]
              rw [show ((ks.map fun k => (Sum.inr k : Key)).zip vs).map (·.1) = ks.map fun k => (Sum.inr k : Key) from List.map_fst_zip (by simp [lv])]
              exact List.Pairwise.map _ (fun a b h e => h (by cases e; rfl)) c3
          refine ⟨hv2, lv, c2, ?_⟩
          rw [mk]
          refine hp (ι2 ++ [p]) (.ref p) _ (ext_dict hn e) (g2.dict hv2 ni nz.2 ⟨vs, ?_, ?_⟩) ⟨p, rfl, by rw [← g2.len]; simp⟩
          · rw [upd_same]
            rw [show ((ks.zip xs).map fun p => (Sum.inr p.1 : Key)) = ks.map fun k => (Sum.inr k : Key) by rw [← List.map_fst_zip (l₁ := ks) (l₂ := xs) (by omega), List.map_map, List.map_fst_zip (by omega)]; rfl]
          · rw [show (ks.zip xs).map (·.2) = xs from List.map_snd_zip (by omega)]
            exact Rps.dict hv2 _ _ r2
        · exact hp.elim
end
end Mi
set_option Elab.async false
set_option linter.all false
set_option maxRecDepth 100000
set_option maxHeartbeats 4000000
/-! Msc: e[::-1] of a list or a tuple. -/
namespace Mi
open PySem PySem.Spec PyProof.Rows L2 HT
section
variable {prog : Program} {w : World} {A : Around} {E : Value → Shared → Prop} {s : Shared}
theorem adj_rev (n : Nat) : Builtin.Slice.sliceAdjust none none (-1) (n : Int) = ((n : Int) - 1, -1) := by
  simp [Builtin.Slice.sliceAdjust]
theorem pl_rev (n : Nat) : Builtin.Slice.slicePlaces ((n : Int) - 1) (-1) (-1) = n := by
  unfold Builtin.Slice.slicePlaces
  simp
  omega
theorem fm_congr {α β : Type} {f g : α → Option β} : ∀ {l : List α}, (∀ m ∈ l, f m = g m) → l.filterMap f = l.filterMap g
  | [], _ => rfl
  | a :: l, h => by rw [List.filterMap_cons, List.filterMap_cons, h a List.mem_cons_self, fm_congr fun m hm => h m (List.mem_cons_of_mem _ hm)]
theorem pick_rev (xs : Array Value) : ((List.range xs.size).filterMap fun (m : Nat) => xs[((xs.size : Int) - 1 + (m : Int) * -1).toNat]?) = xs.toList.reverse := by
  have h := congrArg Array.toList (PySem.W.krv_pick xs)
  unfold slicePick at h
  rw [PySem.W.krv_bounds] at h
  replace h : ((sliceRange ((xs.size : Int) - 1) (-1) (-1)).filterMap (xs[·]?)).toArray.toList = xs.toList.reverse.toArray.toList := h
  rw [PySem.W.krv_sliceRange, List.filterMap_map] at h
  simp only [List.toList_toArray] at h
  rw [← h]
  apply fm_congr
  intro m hm
  have := List.mem_range.mp hm
  show xs[_]? = xs[xs.size - 1 - m]?
  congr 1
  omega
theorem sliceApplied_rev {sl : Addr} {vs : Value} {n : Nat} {Q : Int × Int × Nat → Shared → Prop} (hs : s.heap.IsSliceOf sl .none .none vs) (ps : IsPart vs (some (-1))) (h : Q ((n : Int) - 1, -1, n) s) : wpAny (model prog w) A (Builtin.Slice.sliceApplied (.ref sl) (pure (n : Int))) Q E s := by
  obtain ⟨os, hos, hcs, hds⟩ := id hs
  unfold Builtin.Slice.sliceApplied Builtin.Slice.sliceFields
  refine wpAny_bind (wpAny_bind (wpAny_field hos hds (x := .none) rfl (wpAny_bind (wpAny_field hos hds (x := .none) rfl (wpAny_bind (wpAny_field hos hds (x := vs) rfl (wpAny_pure ?_)))))))
  refine wpAny_bind (slicePart_ ps ?_)
  show wpAny _ _ (if ((-1 : Int) == 0) = true then _ else _) _ _ s
  rw [if_neg (by decide)]
  refine wpAny_bind (slicePart_none (wpAny_bind (slicePart_none (wpAny_bind (wpAny_pure ?_)))))
  show wpAny _ _ (match Builtin.Slice.sliceAdjust none none (-1) (n : Int) with | (lo, hi) => pure (lo, (-1 : Int), Builtin.Slice.slicePlaces lo hi (-1))) _ _ s
  rw [adj_rev]
  show wpAny _ _ (pure ((n : Int) - 1, (-1 : Int), Builtin.Slice.slicePlaces ((n : Int) - 1) (-1) (-1))) _ _ s
  rw [pl_rev]
  exact wpAny_pure h
theorem getItem_tuple_rev {t sl : Addr} {items : Array Value} {vs : Value} {Q : Value → Shared → Prop} (ht : IsTup s.heap t items) (hs : s.heap.IsSliceOf sl .none .none vs) (ps : IsPart vs (some (-1)))
    (h : Q (.ref s.heap.objs.size) { s with heap := s.heap.push { cls := .type "tuple", data := .seq items.toList.reverse.toArray } }) (hsz : items.size ≤ sizeLine) : wpAny (model prog w) A (getItem (.ref t) (.ref sl)) Q E s := by
  have htake : sizeOk (.seq items.toList.reverse.toArray) := by
    show items.toList.reverse.toArray.size ≤ sizeLine
    rw [List.size_toArray, List.length_reverse, Array.length_toList]; exact hsz
  obtain ⟨os, hos, hcs, hds⟩ := id hs
  have hTs : s.TypeIs (.ref sl) "slice" := ⟨os, hos, hcs⟩
  unfold getItem
  try with_reducible refine wpAny_holding ?_
  first | refine wpAny_bind (wpAny_pure ?_) | skip
  refine wpAny_bind (wpAny_sequenceKey ht.typeIs (by decide) (wpAny_bind (wpAny_callSpecial?_slot (name := Str.ofString "__getitem__") ht.typeIs PyProof.Rows.slot_tuple_getitem (wpAny_call_entry PyProof.Rows.slot_tuple_getitem ht.typeIs entry_tuple_getitem ?_ (args_tuple_getitem _ _)))))
  show wpAny _ _ (Builtin.Tuple.tupleItemsOf (.ref t) >>= _) _ _ s
  refine wpAny_bind (tupleItemsOf_ ht (wpAny_bind (wpAny_typeOf hTs ?_)))
  rw [if_pos (by decide)]
  refine wpAny_bind (sliceApplied_rev hs ps ?_)
  show wpAny _ _ (if ((items.size : Int) - 1 == 0 && (-1 : Int) == 1 && items.size == items.size) = true then _ else _) _ _ s
  rw [if_neg (by simp), pick_rev]
  first
    | exact wpAny_bind (m := Builtin.Tuple.tupleExact _) (wpAny_newObj_type (wpAny_pure ⟨_, rfl, wpAny_pure h⟩) htake)
    | exact wpAny_bind (m := Builtin.Tuple.tupleExact _) (wpAny_newObj_type (wpAny_bind (wpAny_pure (wpAny_pure ⟨_, rfl, wpAny_pure h⟩))) htake)
    | exact wpAny_bind (wpAny_bind (m := Builtin.Tuple.tupleExact _) (wpAny_newObj_type (wpAny_pure (wpAny_pure ⟨_, rfl, wpAny_pure h⟩)) htake))
    | exact wpAny_bind (wpAny_bind (m := Builtin.Tuple.tupleExact _) (wpAny_newObj_type (wpAny_pure ⟨_, rfl, wpAny_pure h⟩) htake))
end
section
variable {X : Cx} {T : TW} {W : WX} {e : Expr} {ce : E}
/-- a list or a tuple from the end -/
def tRevA (K : PySem.W.Frag) (te : TE) : TE := fun σ H Q => te σ H fun x H1 => ∃ a xs, x = .ref a ∧ ((SqL K H1 a xs ∧ ∀ p, H1 p = none → Q (.ref p) (upd H1 p (.lst xs.reverse))) ∨ (SqT K H1 a xs ∧ ∀ p, H1 p = none → Q (.ref p) (upd H1 p (.tup xs.reverse))))
theorem pe_revA {te : TE} {k : Nat} {p1 p2 p3 pos : Pos} (he : PE X e te) : PE X (.Subscript e (.Slice none none (some (.UnaryOp .USub (.Constant (.int 1) k p1) p2)) p3) pos) (tRevA X.K te) := by
  refine ⟨fun pins s σ H Q I h => Subscript_ (thn (he.run pins s σ H _ I h) fun v s1 ⟨x, H1, I1, r1, a, xs, ex, q⟩ => ?_)⟩
  subst ex
  cases r1
  have hst : PO X (some (.UnaryOp .USub (.Constant (.int 1) k p1) p2)) (tPart (tUn (rU fun i => .int (-i)) (tC (.int 1)))) := po_some (pe_un un_neg pe_int)
  refine wpAny_Slice (thn (po_none.run pins s1 σ H1 (fun o H2 => o = none ∧ H2 = H1) I1 ⟨rfl, rfl⟩) fun vl s2 ⟨l, H2, I2, pl, el, e2⟩ => ?_)
  subst el e2
  refine thn (po_none.run pins s2 σ H2 (fun o H3 => o = none ∧ H3 = H2) I2 ⟨rfl, rfl⟩) fun vu s3 ⟨u, H3, I3, pu, eu, e3⟩ => ?_
  subst eu e3
  refine thn (hst.run pins s3 σ H3 (fun o H4 => o = some (-1) ∧ H4 = H3) I3 ⟨1, rfl, -1, rfl, rfl, rfl⟩) fun vs s4 ⟨o, H4, I4, ps, eo, e4⟩ => ?_
  subst eo e4
  have evl : vl = .none := by cases pl; rfl
  have evu : vu = .none := by cases pu; rfl
  subst evl evu
  have I5 : Inv X pins σ H4 { s4 with heap := s4.heap.push { cls := .type "slice", data := .fields #[.none, .none, vs] } } := I4.kept (t' := s4.toks) fun b ob q => Heap.get?_push_of_some _ q
  show wpAny (model X.prog X.w) X.A (subscriptTail e (.Slice none none (some (.UnaryOp .USub (.Constant (.int 1) k p1) p2)) p3) (.ref a) (.ref s4.heap.objs.size)) (EP X pins σ Q) X.xe { s4 with heap := s4.heap.push { cls := .type "slice", data := .fields #[.none, .none, vs] } }
  rcases q with ⟨hx, q⟩ | ⟨hx, q⟩
  · obtain ⟨its, r, ht, hz⟩ := I5.list hx
    have hlen := r.length
    refine tail_any (ops := [.ref a, .ref s4.heap.objs.size]) ht.isList.typeIs (PySem.slot_list_getitem.lookup) ?_ (by with_unfolding_all rfl)
    refine wpAny_getItem_list_slice ht.isList (Heap.IsSliceOf.new _ .none .none vs) .none .none ps (by decide) ?_ (by rw [List.size_toArray]; omega)
    rw [PySem.W.krv_pick]
    exact ⟨.ref _, _, I5.laid (t' := s4.toks) (o := .lst xs.reverse) (fun b ob q => Heap.get?_push_of_some _ q) (Nat.le_refl _) ⟨by rw [List.length_reverse]; exact hz, _, 0, r.reverse, Heap.get?_push_size _ rfl⟩, rfl, q _ (I5.hok.fresh (Nat.le_refl _))⟩
  · obtain ⟨its, r, ht, hz⟩ := I5.tuple hx
    have hlen := r.length
    refine tail_any (ops := [.ref a, .ref s4.heap.objs.size]) ht.typeIs (PyProof.Rows.slot_tuple_getitem.lookup) ?_ (by with_unfolding_all rfl)
    refine getItem_tuple_rev ht (Heap.IsSliceOf.new _ .none .none vs) ps ?_ (by rw [List.size_toArray]; omega)
    exact ⟨.ref _, _, I5.laid (t' := s4.toks) (o := .tup xs.reverse) (fun b ob q => Heap.get?_push_of_some _ q) (Nat.le_refl _) ⟨by rw [List.length_reverse]; exact hz, _, r.reverse, ⟨_, Heap.get?_push_size _ rfl, rfl, _, rfl⟩⟩, rfl, q _ (I5.hok.fresh (Nat.le_refl _))⟩
theorem Rps.rev {K : PySem.W.Frag} {mg : Str → Option Value} {ι Z : List Addr} {H : Hp} : ∀ {ds : List Mi.D} {vs : List V}, Rps K mg ι Z H ds vs → Rps K mg ι Z H ds.reverse vs.reverse
  | [], _, h => by rw [h]; exact rfl
  | d :: ds, _, h => by
    obtain ⟨v, vs', rfl, h1, h2⟩ := h
    rw [List.reverse_cons, List.reverse_cons]
    exact (Rps.rev h2).append ⟨v, [], rfl, h1, rfl⟩
theorem m_rev {k : Nat} {p1 p2 p3 pos : Pos} (he : PE X e (tE X.K X.mg T W ce)) : PE X (.Subscript e (.Slice none none (some (.UnaryOp .USub (.Constant (.int 1) k p1) p2)) p3) pos) (tE X.K X.mg T W (.rev ce)) :=
  PE.imp (pe_revA he) fun σ H Q h => by
    obtain ⟨ι, Z, Zf, μ, δ, g, sr, hp⟩ := h
    refine ⟨ι, Z, Zf, μ, δ, g, sr, post.bind hp fun x μ1 ι1 v H1 e1 g1 r1 hp1 => ?_⟩
    unfold optR revD at hp1
    split at hp1
    · rename_i xs e2
      obtain ⟨a, vs, rfl, h1, h2⟩ := see_lst g1 e2 r1
      exact ⟨a, vs, rfl, .inl ⟨SqL.of h1, fun p hn => hp1 _ _ _ (ext_fresh hn) (g1.fresh hn) (Rp.newL g1 hn (Rps.rev h2))⟩⟩
    · rename_i xs e2
      obtain ⟨a, vs, rfl, h1, h2⟩ := see_seq g1 e2 r1
      exact ⟨a, vs, rfl, .inr ⟨h1.sq, fun p hn => hp1 _ _ _ (ext_fresh hn) (g1.fresh hn) (Rp.newT hn (Rps.rev h2))⟩⟩
    · exact hp1.elim
end
end Mi
set_option Elab.async false
set_option linter.all false
set_option maxRecDepth 100000
set_option maxHeartbeats 4000000
/-! Nh: enumerate over a tuple. -/
namespace Mt2
open PySem PySem.Spec PyProof.Rows L2
abbrev St := L2.St
theorem meets_new {v : Value} {o : Obj} {H : Heap → Prop} (B : Begins v o H) :
    Meets (Builtin.«enumerate.__new__» ⟨[.type "enumerate", v], []⟩) (fun _ R s => H s.heap ∧ R (.ok (.ret (.ref (s.heap.push o).objs.size))) { s with heap := (s.heap.push o).push { cls := .type "enumerate", data := .fields #[.none, .bool false, .ref s.heap.objs.size, rawInt 0, .none, .none] } }) :=
  .of_wp fun prog w A R s h => by
    obtain ⟨hp, g, d, tk, os⟩ := s
    obtain ⟨h1, h⟩ := h
    have hsub := sub_enumerate
    have q1 : ∀ {A' : Around} {E : Value → Shared → Prop} {Q : Value → Shared → Prop}, Q (.ref hp.objs.size) ⟨hp.push o, g, d, tk, os⟩ → wpAny (model prog w) A' (pyIter v) Q E ⟨hp, g, d, tk, os⟩ := fun q => B.iter prog w _ _ ⟨hp, g, d, tk, os⟩ _ h1 q
    wp_walk using q1
    refine wpAny_stack_any fun st => wpAny_pure ?_
    split
    · rename_i c _ _ _ _ _
      cases (c == Value.type "enumerate") <;> (wp_walk using q1; exact ⟨_, rfl, h⟩)
    · wp_walk using q1
      exact ⟨_, rfl, h⟩
theorem call_enumT {prog : Program} {w : World} {A : Around} {E : Value → Shared → Prop} {s : Shared} {v : Value} {o : Obj} {H : Heap → Prop} {Q : Value → Shared → Prop} (B : Begins v o H) (h1 : H s.heap)
    (h : ∀ h', IsEnum h' (s.heap.objs.size + 1) s.heap.objs.size 0 .none → h'.get? s.heap.objs.size = some o → h'.objs.size = s.heap.objs.size + 2 → (∀ b o, s.heap.get? b = some o → h'.get? b = some o) → Q (.ref (s.heap.objs.size + 1)) { s with heap := h' }) :
    wpAny (model prog w) A (call (.type "enumerate") [v]) Q E s := by
  refine callType_new F.called_enumerate (by decide) (F.typeCall_enumerate_1 _) (F.newCall_enumerate_1 _) (fun obj => F.args_object_init_2 obj _) F.entry_enumerate_new (meets_new B) ⟨h1, ?_⟩
  have hz : (s.heap.push o).objs.size = s.heap.objs.size + 1 := Heap.size_push ..
  show _ ∧ _
  rw [hz]
  have he : IsEnum ((s.heap.push o).push { cls := .type "enumerate", data := .fields #[.none, .bool false, .ref s.heap.objs.size, rawInt 0, .none, .none] }) (s.heap.objs.size + 1) s.heap.objs.size 0 .none := by
    have := Heap.get?_push_size (s.heap.push o) (o := { cls := .type "enumerate", data := .fields #[.none, .bool false, .ref s.heap.objs.size, rawInt 0, .none, .none] }) rfl
    rw [hz] at this; exact this
  exact ⟨⟨_, he, rfl⟩, h _ he (Heap.get?_push_of_some _ (Heap.get?_push_size _ B.free)) (by rw [Heap.size_push, hz]) fun b o x => Heap.get?_push_of_some _ (Heap.get?_push_of_some _ x)⟩
/-- the tuple at a, its items in new pairs with their numbers -/
def IteT (K : PySem.W.Frag) (a : Addr) : It :=
  ⟨fun i H => ∃ (xs : List V) (x : V), SqT K H a xs ∧ xs[i]? = some x, fun i H v H' => ∃ T x, v = .ref T ∧ H T = none ∧ H' = upd H T (.tup [.int (i : Nat), x]) ∧ ∀ xs, SqT K H a xs → xs[i]? = some x, fun i H => ∃ xs : List V, SqT K H a xs ∧ xs.length = i⟩
theorem tuple_inj {X : Cx} {pins : List (Addr × Obj)} {σ : St} {H : Hp} {s : Shared} {a : Addr} {xs ys : List V} (I : Inv X pins σ H s) (h1 : SqT X.K H a xs) (h2 : SqT X.K H a ys) : xs = ys := by
  first
  | exact I.tuple_inj h1 h2
  | exact (I.tuple_inj h2 h1).symm
theorem turn_enumT {P : Program} {w : World} {K : PySem.W.Frag} {elts : List Expr} {kk : Nat} {tpos : Pos} (a e it : Addr) (hae : a ≠ it) (hea : e ≠ a) :
    Turn P w K (.Tuple elts kk tpos) (IteT K a) [e, it] e (fun i h => (∃ old, IsEnum h e it ((i : Nat) : Int) old) ∧ h.IsTupleIter it a i ∧ e ≠ it) where
  mem := by simp
  obj := fun i h st b hb => by
    obtain ⟨⟨old, he⟩, ⟨o, ho, hc, hd⟩, _⟩ := st
    rcases (by simpa using hb : b = e ∨ b = it) with z | z
    · rw [z]; exact ⟨_, he, fun v q => nomatch q⟩
    · rw [z]; exact ⟨o, ho, fun v q => by rw [hd] at q; cases q⟩
  keep := fun i h h' st k => let ⟨⟨old, he⟩, hi, hne⟩ := st; ⟨⟨old, k e (by simp) _ he⟩, hi.at fun o q => k it (by simp) o q, hne⟩
  item := by
    intro X hP hw hK hc i pins s σ H E I hf st hg
    subst hP hw hK
    obtain ⟨⟨old, he⟩, hit, hne⟩ := st
    obtain ⟨xs, x, hq, hx⟩ := hg
    obtain ⟨its, rv, ht, hz⟩ := I.tuple hq
    obtain ⟨u, hu, ru⟩ := rv.get hx
    have hlt : i < its.toArray.size := by simpa using (List.getElem?_eq_some_iff.mp hu).1
    have hel : e < s.heap.objs.size := Heap.lt_size he
    have hil : it < s.heap.objs.size := by obtain ⟨_, q, _⟩ := hit; exact Heap.lt_size q
    refine wpAny_pyNext_enum_itemC (Draws.tuple (A := X.A.in1) (I.ok.hd hc) it a hae its.toArray) he ⟨hit, ht⟩ hlt hne (by simp [hne, hea]) fun u' h' tk hu' ho st' hT hsz hk => ?_
    have eu : u' = u := by
      have z : its.toArray[i]? = some u' := hu'
      rw [List.getElem?_toArray, hu] at z
      exact (Option.some.inj z).symm
    subst eu
    refine ⟨_, rfl, wpAny_letOwnedTupleGo_enum (s := { s with heap := h', toks := tk + 1 }) ho fun h'' he' sb => ?_⟩
    have hT2 : h''.get? s.heap.objs.size = some { cls := .type "tuple", data := .seq #[.int i tk, u'] } := (sb.2 _ (Nat.ne_of_gt hel)).trans hT
    have new : ObjOk X.prog X.w (upd H s.heap.objs.size (.tup [.int (i : Nat), x])) h'' s.heap.objs.size (.tup [.int (i : Nat), x]) := ⟨by show 2 ≤ sizeLine; decide, [.int i tk, u'], .cons ⟨_, rfl⟩ (.cons ru .nil), ⟨_, hT2, rfl, _, rfl⟩⟩
    have I1 : Inv X pins σ (upd H s.heap.objs.size (.tup [.int (i : Nat), x])) { s with heap := h'', toks := tk + 1 } :=
      I.turnedNew (ch := [e, it]) (fun b ob hb q => (sb.2 b (fun z => hb (by simp [z]))).trans (hk b ob (fun z => hb (by simp [z])) (fun z => hb (by simp [z])) q)) hf (Nat.le_refl _) new
    refine ⟨.ref s.heap.objs.size, _, I1, rfl, ⟨_, x, rfl, I.hok.fresh (Nat.le_refl _), rfl, fun ys hy => by rw [tuple_inj I hy hq]; exact hx⟩, ⟨⟨u', ?_⟩, st'.1.at fun o q => (sb.2 it (Ne.symm hne)).trans q, hne⟩, fun b hb => ?_⟩
    · have e1 : ((i + 1 : Nat) : Int) = (i : Int) + 1 := by omega
      rw [e1]; exact he'
    · have hb' : b < s.heap.objs.size := by
        rcases (by simpa using hb : b = e ∨ b = it) with z | z
        · rw [z]; exact hel
        · rw [z]; exact hil
      rw [upd_ne (Nat.ne_of_lt hb')]
      exact (hf b hb).1
  done := by
    intro X hP hw hK hc i pins s σ H E I hf st hg
    subst hP hw hK
    obtain ⟨⟨old, he⟩, hit, hne⟩ := st
    obtain ⟨xs, hq, hx⟩ := hg
    obtain ⟨its, rv, ht, hz⟩ := I.tuple hq
    obtain ⟨f0, f1, f2, f3, f4, f5⟩ := hf it (by simp)
    have hl := rv.length
    have en : its.toArray.size = i := by simp; omega
    exact wpAny_pyNext_enum_endD (Draws.tuple (A := X.A.in1) (I.ok.hd hc) it a hae its.toArray) he (by rw [en]; exact ⟨hit, ht⟩) fun h' eb => ⟨rfl, I.turned (t' := s.toks) (fun b o hb q => eb b o hb q) f0 f1 f3 f4 f5⟩
  self := fun A i s Q E st h => let ⟨⟨_, he⟩, _⟩ := st; wpAny_pyIter_enum he h
/-- a list or a tuple -/
def iEnumA (K : PySem.W.Frag) (ta : TA) : TI := fun σ H R => ta σ H fun vs H1 => ∃ a, vs = [.ref a] ∧ ((∃ xs, SqL K H1 a xs ∧ R (Ite K a) H1) ∨ ∃ xs, SqT K H1 a xs ∧ R (IteT K a) H1)
theorem pi_enumA {X : Cx} {e : Expr} {ta : TA} {p pos tpos : Pos} {elts : List Expr} {kk : Nat} (hg : Gl X "enumerate") (hm : X.mg "enumerate" = none) (ha : PA X [e] ta) (hs : starEach [e] X.env = [(false, eval e X.env)]) :
    PI X (.Tuple elts kk tpos) (.Call (.Name "enumerate" p) [e] [] pos) (iEnumA X.K ta) := by
  refine ⟨fun pins s σ H R I h => Call_ (ld_blt I hg hm boot_enumerate (PyProof.Rows.callWith_type1 (thn (ha.run pos pins s σ H _ I h) fun us s1 ⟨vs, H1, I1, r1, q1⟩ => ?_) hs rfl))⟩
  obtain ⟨a, rfl, q1⟩ := q1
  obtain rfl : us = [Value.ref a] := by
    cases r1 with
    | cons r rr => cases rr; cases r; rfl
  have fresh : ∀ b, b = s1.heap.objs.size + 1 ∨ b = s1.heap.objs.size → FpOk X pins H1 b := fun b e' => by
    have hle : s1.heap.objs.size ≤ b := by
      rcases e' with z | z
      · rw [z]; exact Nat.le_add_right _ _
      · rw [z]; exact Nat.le_refl _
    exact I1.fpOk hle (I1.hok.fresh hle)
  rcases q1 with ⟨xs, hq, q⟩ | ⟨xs, hq, q⟩
  · obtain ⟨its, rv, p', hz⟩ := I1.list hq
    refine call_enumerate_list p'.isList fun h' he hit hsz hk => wpAny_pyIter_enum he ?_
    have I2 : Inv X pins σ H1 { s1 with heap := h' } := I1.kept (t' := s1.toks) hk
    exact ⟨s1.heap.objs.size + 1, [s1.heap.objs.size + 1, s1.heap.objs.size], _, _, H1, rfl, I2, turn_enum a (s1.heap.objs.size + 1) s1.heap.objs.size, ⟨⟨.none, he⟩, hit, Nat.succ_ne_self _⟩, fun b hb => fresh b (by simpa using hb), q⟩
  · obtain ⟨its, rv, ht, hz⟩ := I1.tuple hq
    have hlt : a < s1.heap.objs.size := by obtain ⟨_, e, _⟩ := ht; exact Heap.lt_size e
    refine call_enumT (begins_tuple a its.toArray) ht fun h' he hit hsz hk => wpAny_pyIter_enum he ?_
    have I2 : Inv X pins σ H1 { s1 with heap := h' } := I1.kept (t' := s1.toks) hk
    exact ⟨s1.heap.objs.size + 1, [s1.heap.objs.size + 1, s1.heap.objs.size], _, _, H1, rfl, I2, turn_enumT a (s1.heap.objs.size + 1) s1.heap.objs.size (Nat.ne_of_lt hlt) (Nat.ne_of_gt (Nat.lt_succ_of_lt hlt)), ⟨⟨.none, he⟩, ⟨_, hit, rfl, rfl⟩, Nat.succ_ne_self _⟩, fun b hb => fresh b (by simpa using hb), q⟩
theorem walk_enumT {K : PySem.W.Frag} {a : Addr} {xs : List V} : Walk (IteT K a) xs.length (fun H => SqT K H a xs) (YPair (fun i => some (.int (i : Nat))) (fun i => xs[i]?)) := by
  refine ⟨fun i _ hi q => ⟨xs, xs[i], q, by simp [hi]⟩, fun _ q => ⟨xs, q, rfl⟩, fun i H v H' _ q y => ?_⟩
  obtain ⟨T, x, h1, h2, h3, h4⟩ := y
  exact ⟨T, .int (i : Nat), x, h1, h2, h3, rfl, h4 xs q⟩
end Mt2
set_option Elab.async false
set_option linter.all false
set_option maxRecDepth 100000
set_option maxHeartbeats 4000000
/-! Mt: targets, what is walked, comprehensions. -/
namespace Mi
open PySem PySem.Spec PyProof.Rows L2 RZ
theorem PG.imp {X : Cx} {e : Expr} {t t' : TG} (h : PG X e t) (i : ∀ v σ H Q, t' v σ H Q → t v σ H Q) : PG X e t' := ⟨fun pins s σ H v u Q I r q => h.run pins s σ H v u Q I r (i v σ H Q q)⟩
/-- a target: data goes to its slots -/
def gT (K : PySem.W.Frag) (mg : Str → Option Value) (T : TW) (tg : Tg) : TG := fun v σ H Q => ∃ ι Z Zf δ x δ', SR K mg ι Z Zf H δ σ ∧ Rp K mg ι Z H x v ∧ tg.put x δ = some δ' ∧
  ∀ σ', SR K mg ι Z Zf H δ' σ' → (∀ vs, (∀ i ∈ tg.slots, i ∈ vs) → wipe σ' vs = wipe σ vs) → Q σ' H
theorem wipe_set {σ : L2.St} {i : Nat} {x : Option V} : ∀ {vs : List Nat}, i ∈ vs → wipe (σ.set i x) vs = wipe σ vs
  | v :: vs, h => by
    unfold wipe
    by_cases hi : i ∈ vs
    · rw [wipe_set hi]
    · have hv : i = v := by
        rcases List.mem_cons.mp h with e | e
        · exact e
        · exact absurd e hi
      subst hv
      have comm : ∀ (ws : List Nat), i ∉ ws → (wipe (σ.set i x) ws).set i none = (wipe σ ws).set i none := by
        intro ws
        induction ws with
        | nil => intro _; show (σ.set i x).set i none = σ.set i none; rw [List.set_set]
        | cons w ws ih =>
          intro hw
          simp only [List.mem_cons, not_or] at hw
          show ((wipe (σ.set i x) ws).set w none).set i none = ((wipe σ ws).set w none).set i none
          rw [List.set_comm _ _ (fun e => hw.1 e.symm), ih hw.2, List.set_comm _ _ hw.1]
      exact comm vs hi
theorem put_pair {s t : Tg} {x : D} {δ δ' : List Sl} (h : (Tg.pair s t).put x δ = some δ') : ∃ y z δ1, (x = .tup [y, z] ∨ x = .lst [y, z]) ∧ s.put y δ = some δ1 ∧ t.put z δ1 = some δ' := by
  match x, h with
  | .lst [y, z], h =>
    simp only [Tg.put, Option.bind_eq_some_iff] at h
    obtain ⟨δ1, p1, p2⟩ := h
    exact ⟨y, z, δ1, .inr rfl, p1, p2⟩
  | .tup [y, z], h =>
    simp only [Tg.put, Option.bind_eq_some_iff] at h
    obtain ⟨δ1, p1, p2⟩ := h
    exact ⟨y, z, δ1, .inl rfl, p1, p2⟩
theorem put_trip {s t u : Tg} {x : D} {δ δ' : List Sl} (h : (Tg.trip s t u).put x δ = some δ') : ∃ y z w δ1 δ2, x = .tup [y, z, w] ∧ s.put y δ = some δ1 ∧ t.put z δ1 = some δ2 ∧ u.put w δ2 = some δ' := by
  match x, h with
  | .tup [y, z, w], h =>
    simp only [Tg.put, Option.bind_eq_some_iff] at h
    obtain ⟨δ1, p1, δ2, p2, p3⟩ := h
    exact ⟨y, z, w, δ1, δ2, rfl, p1, p2, p3⟩
section
variable {X : Cx} {T : TW} {W : WX} {pos : Pos}
theorem mg_name {i : Nat} {x : Str} (hN : X.N.Nodup) (hi : X.N[i]? = some x) (hx : Loc X.env.scope x) (hf : X.fn x = true ∨ X.env.scope.names.lookup x = some .local) : PG X (.Name x pos) (gT X.K X.mg T (.name i)) :=
  PG.imp (pg_name hN hi hx hf) fun v σ H Q h => by
    obtain ⟨ι, Z, Zf, δ, x, δ', sr, r, hp, q⟩ := h
    simp only [Tg.put, Option.some.injEq] at hp
    subst hp
    exact q _ (sr.set r) fun vs hv => wipe_set (hv i (by simp [Tg.slots]))
theorem pg_or {e : Expr} {t1 t2 : TG} (h1 : PG X e t1) (h2 : PG X e t2) : PG X e (fun v σ H Q => t1 v σ H Q ∨ t2 v σ H Q) :=
  ⟨fun pins s σ H v u Q I r h => h.elim (h1.run pins s σ H v u Q I r) (h2.run pins s σ H v u Q I r)⟩
theorem mg_pair {a b : Expr} {s t : Tg} {k : Nat} (hc : X.calm = true) (ha : PG X a (gT X.K X.mg T s)) (hb : PG X b (gT X.K X.mg T t))
    (hn : (assignEach [a, b] X.env).length = 2) (hst : (assignEach [a, b] X.env).findIdx? (·.1) = none)
    (h1 : (assignEach [a, b] X.env).map (·.2) = assign a X.env :: (assignEach [b] X.env).map (·.2)) (h2 : (assignEach [b] X.env).map (·.2) = assign b X.env :: (assignEach [] X.env).map (·.2)) :
    PG X (.Tuple [a, b] k pos) (gT X.K X.mg T (.pair s t)) :=
  PG.imp (pg_or (pg_tup hc (pgs_cons ha (pgs_cons hb pgs_nil h2) h1) hn hst) (pg_lst hc (pgs_cons ha (pgs_cons hb pgs_nil h2) h1) hn hst)) fun v σ H Q h => by
    obtain ⟨ι, Z, Zf, δ, x, δ', sr, r, hp, q⟩ := h
    obtain ⟨y, z, δ1, e, p1, p2⟩ := put_pair hp
    rcases e with rfl | rfl
    rotate_left
    · obtain ⟨p, vs, rfl, h1, h2⟩ := r
      obtain ⟨u, w, rfl, r1, r2⟩ := h2.two
      refine .inr ⟨p, [u, w], rfl, SqL.of h1.1, rfl, u, [w], rfl, ι, Z, Zf, δ, y, δ1, sr, r1, p1, fun σ1 sr1 w1 => ?_⟩
      refine ⟨w, [], rfl, ι, Z, Zf, δ1, z, δ', sr1, r2, p2, fun σ2 sr2 w2 => ⟨rfl, q σ2 sr2 fun vs hv => ?_⟩⟩
      rw [w2 vs (fun i hi => hv i (by simp [Tg.slots, hi])), w1 vs (fun i hi => hv i (by simp [Tg.slots, hi]))]
    obtain ⟨p, vs, rfl, h1, h2⟩ := r
    obtain ⟨u, w, rfl, r1, r2⟩ := h2.two
    refine .inl ⟨p, [u, w], rfl, h1.sq, rfl, u, [w], rfl, ι, Z, Zf, δ, y, δ1, sr, r1, p1, fun σ1 sr1 w1 => ?_⟩
    refine ⟨w, [], rfl, ι, Z, Zf, δ1, z, δ', sr1, r2, p2, fun σ2 sr2 w2 => ⟨rfl, q σ2 sr2 fun vs hv => ?_⟩⟩
    rw [w2 vs (fun i hi => hv i (by simp [Tg.slots, hi])), w1 vs (fun i hi => hv i (by simp [Tg.slots, hi]))]
theorem mg_trip {a b c : Expr} {s t w : Tg} {k : Nat} (hc : X.calm = true) (ha : PG X a (gT X.K X.mg T s)) (hb : PG X b (gT X.K X.mg T t)) (hd : PG X c (gT X.K X.mg T w))
    (hn : (assignEach [a, b, c] X.env).length = 3) (hst : (assignEach [a, b, c] X.env).findIdx? (·.1) = none)
    (h1 : (assignEach [a, b, c] X.env).map (·.2) = assign a X.env :: (assignEach [b, c] X.env).map (·.2)) (h2 : (assignEach [b, c] X.env).map (·.2) = assign b X.env :: (assignEach [c] X.env).map (·.2))
    (h3 : (assignEach [c] X.env).map (·.2) = assign c X.env :: (assignEach [] X.env).map (·.2)) :
    PG X (.Tuple [a, b, c] k pos) (gT X.K X.mg T (.trip s t w)) :=
  PG.imp (pg_tup hc (pgs_cons ha (pgs_cons hb (pgs_cons hd pgs_nil h3) h2) h1) hn hst) fun v σ H Q h => by
    obtain ⟨ι, Z, Zf, δ, x, δ', sr, r, hp, q⟩ := h
    obtain ⟨y, z, y3, δ1, δ2, rfl, p1, p2, p3⟩ := put_trip hp
    obtain ⟨p, vs, rfl, h1, h2⟩ := r
    obtain ⟨u, vs', rfl, r1, h2⟩ := h2
    obtain ⟨u2, u3, rfl, r2, r3⟩ := Rps.two h2
    refine ⟨p, [u, u2, u3], rfl, h1.sq, rfl, u, [u2, u3], rfl, ι, Z, Zf, δ, y, δ1, sr, r1, p1, fun σ1 sr1 w1 => ?_⟩
    refine ⟨u2, [u3], rfl, ι, Z, Zf, δ1, z, δ2, sr1, r2, p2, fun σ2 sr2 w2 => ?_⟩
    refine ⟨u3, [], rfl, ι, Z, Zf, δ2, y3, δ', sr2, r3, p3, fun σ3 sr3 w3 => ⟨rfl, q σ3 sr3 fun vs hv => ?_⟩⟩
    rw [w3 vs (fun i hi => hv i (by simp [Tg.slots, hi])), w2 vs (fun i hi => hv i (by simp [Tg.slots, hi])), w1 vs (fun i hi => hv i (by simp [Tg.slots, hi]))]
/-- names -/
def isNm : Expr → Bool
  | .Name .. => true
  | _ => false
theorem as_names : ∀ {es : List Expr} {env : Env}, es.all isNm = true → assignEach es env = es.map fun e => (false, assign e env)
  | [], _, _ => rfl
  | e :: es, env, h => by
    rw [List.all_cons, Bool.and_eq_true] at h
    have := as_names (env := env) h.2
    cases e with
    | Name x p =>
      show (false, assign (.Name x p) env) :: assignEach es env = _
      rw [this]; rfl
    | _ => cases h.1
/-- names, one by one -/
def gM (K : PySem.W.Frag) (mg : Str → Option Value) (T : TW) (is : List Nat) : TGs := fun vs σ H Q => ∃ ι Z Zf δ ds δ', SR K mg ι Z Zf H δ σ ∧ Rps K mg ι Z H ds vs ∧ putAll is ds δ = some δ' ∧
  ∀ σ', SR K mg ι Z Zf H δ' σ' → (∀ vs, (∀ i ∈ is, i ∈ vs) → wipe σ' vs = wipe σ vs) → Q σ' H
theorem PGs.imp {es : List Expr} {t t' : TGs} (h : PGs X es t) (i : ∀ v σ H Q, t' v σ H Q → t v σ H Q) : PGs X es t' := ⟨fun pins s σ H v u Q I r q => h.run pins s σ H v u Q I r (i v σ H Q q)⟩
theorem mgs_many : ∀ {es : List Expr} {is : List Nat}, es.all isNm = true → Paired (fun e i => PG X e (gT X.K X.mg T (.name i))) es is → PGs X es (gM X.K X.mg T is)
  | [], [], _, _ => PGs.imp pgs_nil fun vs σ H Q h => by
    obtain ⟨ι, Z, Zf, δ, ds, δ', sr, r, hp, q⟩ := h
    cases ds with
    | nil => cases hp; exact ⟨r, q σ sr fun _ _ => rfl⟩
    | cons d ds => cases hp
  | e :: es, i :: is, hn, .cons h t => by
    have hn2 := hn
    rw [List.all_cons, Bool.and_eq_true] at hn2
    refine PGs.imp (pgs_cons h (mgs_many hn2.2 t) (by rw [as_names hn, as_names hn2.2]; rfl)) fun vs σ H Q h => ?_
    obtain ⟨ι, Z, Zf, δ, ds, δ', sr, r, hp, q⟩ := h
    cases ds with
    | nil => cases hp
    | cons d ds =>
      obtain ⟨v, vs', rfl, r1, r2⟩ := r
      refine ⟨v, vs', rfl, ι, Z, Zf, δ, d, δ.set i (.d d), sr, r1, rfl, fun σ1 sr1 w1 => ?_⟩
      refine ⟨ι, Z, Zf, δ.set i (.d d), ds, δ', sr1, r2, hp, fun σ2 sr2 w2 => q σ2 sr2 fun ws hws => ?_⟩
      rw [w2 ws fun j hj => hws j (List.mem_cons_of_mem _ hj), w1 ws fun j hj => hws j ?_]
      have : j = i := by simpa [Tg.slots] using hj
      rw [this]; exact List.mem_cons_self
theorem putAll_len : ∀ {is : List Nat} {ds : List D} {δ δ' : List Sl}, putAll is ds δ = some δ' → is.length = ds.length
  | [], [], _, _, _ => rfl
  | i :: is, d :: ds, δ, δ', h => by simp [putAll_len (show putAll is ds _ = some δ' from h)]
  | [], _ :: _, _, _, h => by cases h
  | _ :: _, [], _, _, h => by cases h
theorem mg_many {es : List Expr} {is : List Nat} {k : Nat} (hc : X.calm = true) (hn : es.all isNm = true) (hp : Paired (fun e i => PG X e (gT X.K X.mg T (.name i))) es is) : PG X (.Tuple es k pos) (gT X.K X.mg T (.many is)) :=
  PG.imp (pg_tup (n := es.length) hc (mgs_many hn hp) (by rw [as_names hn, List.length_map]) (by rw [as_names hn, List.findIdx?_eq_none_iff]; intro x hx; obtain ⟨e, _, rfl⟩ := List.mem_map.mp hx; rfl)) fun v σ H Q h => by
    obtain ⟨ι, Z, Zf, δ, x, δ', sr, r, hput, q⟩ := h
    cases x with
    | tup ds =>
      obtain ⟨a, vs, rfl, h1, h2⟩ := r
      refine ⟨a, vs, rfl, h1.sq, ?_, ι, Z, Zf, δ, ds, δ', sr, h2, hput, q⟩
      rw [← h2.length, ← putAll_len hput]
      exact (Paired.length hp).symm
    | _ => cases hput
end
/-! ### what is walked -/
/-- J walks the data xs, from the heap H on, while what is at ι and Z may change -/
def WK (K : PySem.W.Frag) (mg : Str → Option Value) (J : L2.It) (xs : List D) (ι Z : List Addr) (H : Hp) : Prop := ∃ (G : Hp → Prop) (Y : Nat → Hp → V → Hp → Prop), L2.Walk J xs.length G Y ∧
  (∀ ι2 Zf H2, Ext ι Zf H ι2 H2 → (∀ z ∈ Zf, z ∈ Z) → G H2) ∧
  (∀ i d ι2 Zf Z2 H2 H3 x, xs[i]? = some d → Ext ι Zf H ι2 H2 → (∀ z ∈ Zf, z ∈ Z) → (∀ z ∈ Z2, z ∈ Z ∨ H z = none) → Y i H2 x H3 → (H3 = H2 ∨ ∃ p o, H2 p = none ∧ H3 = upd H2 p o) ∧ Rp K mg ι2 Z2 H3 d x)
theorem ext_all {K : PySem.W.Frag} {mg : Str → Option Value} {ι Z ι2 Zf Z2 : List Addr} {H H2 : Hp} {ds : List D} {vs : List V} (h : Rps K mg ι Z H ds vs) (e : Ext ι Zf H ι2 H2) (hf : ∀ z ∈ Zf, z ∈ Z) (hz : ∀ z ∈ Z2, z ∈ Z ∨ H z = none) : Rps K mg ι2 Z2 H2 ds vs := Rps.ext e hf hz ds vs h
theorem wk_tup {K : PySem.W.Frag} {mg : Str → Option Value} {ι Z : List Addr} {H : Hp} {a : Addr} {ds : List D} {vs : List V} (h1 : TupAt K H a vs) (h2 : Rps K mg ι Z H ds vs) : WK K mg (Itt K a) ds ι Z H := by
  refine ⟨_, _, by rw [h2.length]; exact walk_tup (xs := vs), fun ι2 Zf H2 e _ => (h1.ext e).sq, fun i d ι2 Zf Z2 H2 H3 x hd e hf hz y => ?_⟩
  obtain ⟨rfl, y⟩ := y
  obtain ⟨v, h3, h4⟩ := (ext_all h2 e hf hz).get hd
  rw [y] at h3; cases h3
  exact ⟨.inl rfl, h4⟩
theorem wk_lst {K : PySem.W.Frag} {mg : Str → Option Value} {ι Z : List Addr} {H : Hp} {a : Addr} {ds : List D} {vs : List V} (h1 : H a = some (.lst vs) ∧ a ∉ ι ∧ a ∉ Z) (h2 : Rps K mg ι Z H ds vs) : WK K mg (Itl K a) ds ι Z H := by
  refine ⟨_, _, by rw [h2.length]; exact walk_list (xs := vs), fun ι2 Zf H2 e hf => SqL.of (e.keep a _ h1.1 h1.2.1 (fun z => h1.2.2 (hf a z)) (fun _ z => by cases z)), fun i d ι2 Zf Z2 H2 H3 x hd e hf hz y => ?_⟩
  obtain ⟨rfl, y⟩ := y
  obtain ⟨v, h3, h4⟩ := (ext_all h2 e hf hz).get hd
  rw [y] at h3; cases h3
  exact ⟨.inl rfl, h4⟩
theorem wk_rng {K : PySem.W.Frag} {mg : Str → Option Value} {ι Z : List Addr} {H : Hp} {i j : Int} : WK K mg (Itr i (j - i).toNat) (rgD i j) ι Z H := by
  have hl : (rgD i j).length = (j - i).toNat := by simp [rgD]
  refine ⟨_, _, by rw [hl]; exact walk_range, fun _ _ _ _ _ => trivial, fun n d ι2 Zf Z2 H2 H3 x hd e hf hz y => ?_⟩
  obtain ⟨rfl, rfl⟩ := y
  have hn : n < (j - i).toNat := by rw [← hl]; exact (List.getElem?_eq_some_iff.mp hd).1
  simp only [rgD, List.getElem?_map, List.getElem?_range hn, Option.map_some, Option.some.injEq] at hd
  subst hd
  exact ⟨.inl rfl, rfl⟩
theorem pair_at {K : PySem.W.Frag} {mg : Str → Option Value} {ι Z : List Addr} {H : Hp} {p : Addr} {x y : D} {v w : V} (hp : H p = none) (h1 : Rp K mg ι Z H x v) (h2 : Rp K mg ι Z H y w) : Rp K mg ι Z (upd H p (.tup [v, w])) (.tup [x, y]) (.ref p) :=
  Rp.newT hp ⟨v, [w], rfl, h1, w, [], rfl, h2, rfl⟩
theorem wk_zipT {K : PySem.W.Frag} {mg : Str → Option Value} {ι Z : List Addr} {H : Hp} {a b : Addr} {ds es : List D} {vs ws : List V} (h1 : TupAt K H a vs) (h2 : Rps K mg ι Z H ds vs) (h3 : TupAt K H b ws) (h4 : Rps K mg ι Z H es ws) : WK K mg (ItzT K a b) (zipD ds es) ι Z H := by
  have hl : (zipD ds es).length = min vs.length ws.length := by simp [zipD, h2.length, h4.length]
  refine ⟨fun H => SqT K H a vs ∧ SqT K H b ws, YPair (fun i => vs[i]?) (fun i => ws[i]?), ?_, fun ι2 Zf H2 e _ => ⟨(h1.ext e).sq, (h3.ext e).sq⟩, fun i d ι2 Zf Z2 H2 H3 x hd e hf hz y => ?_⟩
  · rw [hl]
    refine ⟨fun i _ hi q => ?_, fun _ q => ⟨vs, ws, q.1, q.2, by omega⟩, fun i H v H' _ q y => ?_⟩
    · have h1 : i < vs.length := by omega
      have h2 : i < ws.length := by omega
      exact ⟨vs, ws, vs[i], ws[i], q.1, q.2, by simp [h1], by simp [h2]⟩
    · obtain ⟨T, x, z, h1, h2, h3, h4, h5⟩ := y
      exact ⟨T, x, z, h1, h2, h3, h4 vs q.1, h5 ws q.2⟩
  · obtain ⟨p, u, u2, rfl, hp, rfl, e1, e2⟩ := y
    simp only [zipD, List.getElem?_zipWith] at hd
    split at hd
    · rename_i x y ex ey
      cases hd
      obtain ⟨v, g1, r1⟩ := (ext_all h2 e hf hz).get ex
      obtain ⟨w, g2, r2⟩ := (ext_all h4 e hf hz).get ey
      have e1' := e1.symm.trans g1; cases e1'
      have e2' := e2.symm.trans g2; cases e2'
      exact ⟨.inr ⟨p, _, hp, rfl⟩, pair_at hp r1 r2⟩
    · cases hd
theorem wk_zipL {K : PySem.W.Frag} {mg : Str → Option Value} {ι Z : List Addr} {H : Hp} {a b : Addr} {ds es : List D} {vs ws : List V} (h1 : H a = some (.lst vs) ∧ a ∉ ι ∧ a ∉ Z) (h2 : Rps K mg ι Z H ds vs) (h3 : H b = some (.lst ws) ∧ b ∉ ι ∧ b ∉ Z) (h4 : Rps K mg ι Z H es ws) : WK K mg (Itz K a b) (zipD ds es) ι Z H := by
  have hl : (zipD ds es).length = min vs.length ws.length := by simp [zipD, h2.length, h4.length]
  refine ⟨fun H => SqL K H a vs ∧ SqL K H b ws, YPair (fun i => vs[i]?) (fun i => ws[i]?), by rw [hl]; exact walk_zip rfl,
    fun ι2 Zf H2 e hf => ⟨SqL.of (e.keep a _ h1.1 h1.2.1 (fun z => h1.2.2 (hf a z)) (fun _ z => by cases z)), SqL.of (e.keep b _ h3.1 h3.2.1 (fun z => h3.2.2 (hf b z)) (fun _ z => by cases z))⟩, fun i d ι2 Zf Z2 H2 H3 x hd e hf hz y => ?_⟩
  obtain ⟨p, u, u2, rfl, hp, rfl, e1, e2⟩ := y
  simp only [zipD, List.getElem?_zipWith] at hd
  split at hd
  · rename_i x y ex ey
    cases hd
    obtain ⟨v, g1, r1⟩ := (ext_all h2 e hf hz).get ex
    obtain ⟨w, g2, r2⟩ := (ext_all h4 e hf hz).get ey
    have e1' := e1.symm.trans g1; cases e1'
    have e2' := e2.symm.trans g2; cases e2'
    exact ⟨.inr ⟨p, _, hp, rfl⟩, pair_at hp r1 r2⟩
  · cases hd
theorem wk_enumL {K : PySem.W.Frag} {mg : Str → Option Value} {ι Z : List Addr} {H : Hp} {a : Addr} {ds : List D} {vs : List V} (h1 : H a = some (.lst vs) ∧ a ∉ ι ∧ a ∉ Z) (h2 : Rps K mg ι Z H ds vs) : WK K mg (Ite K a) (enumD ds) ι Z H := by
  have hl : (enumD ds).length = vs.length := by simp [enumD, h2.length]
  refine ⟨_, _, by rw [hl]; exact walk_enum (xs := vs), fun ι2 Zf H2 e hf => SqL.of (e.keep a _ h1.1 h1.2.1 (fun z => h1.2.2 (hf a z)) (fun _ z => by cases z)), fun i d ι2 Zf Z2 H2 H3 x hd e hf hz y => ?_⟩
  obtain ⟨p, u, u2, rfl, hp, rfl, e1, e2⟩ := y
  simp only [enumD, List.getElem?_zipWith] at hd
  split at hd
  · rename_i n y ex ey
    cases hd
    have hi : i < ds.length := (List.getElem?_eq_some_iff.mp ey).1
    rw [List.getElem?_range hi] at ex
    cases ex
    obtain ⟨w, g2, r2⟩ := (ext_all h2 e hf hz).get ey
    have e2' := e2.symm.trans g2; cases e2'
    cases e1
    exact ⟨.inr ⟨p, _, hp, rfl⟩, pair_at hp (show Rp K mg ι2 Z2 H2 (.int i) (.int i) from rfl) r2⟩
  · cases hd
theorem wk_enumT {K : PySem.W.Frag} {mg : Str → Option Value} {ι Z : List Addr} {H : Hp} {a : Addr} {ds : List D} {vs : List V} (h1 : TupAt K H a vs) (h2 : Rps K mg ι Z H ds vs) : WK K mg (Mt2.IteT K a) (enumD ds) ι Z H := by
  have hl : (enumD ds).length = vs.length := by simp [enumD, h2.length]
  refine ⟨_, _, by rw [hl]; exact Mt2.walk_enumT (xs := vs), fun ι2 Zf H2 e hf => (h1.ext e).sq, fun i d ι2 Zf Z2 H2 H3 x hd e hf hz y => ?_⟩
  obtain ⟨p, u, u2, rfl, hp, rfl, e1, e2⟩ := y
  simp only [enumD, List.getElem?_zipWith] at hd
  split at hd
  · rename_i n y ex ey
    cases hd
    have hi : i < ds.length := (List.getElem?_eq_some_iff.mp ey).1
    rw [List.getElem?_range hi] at ex
    cases ex
    obtain ⟨w, g2, r2⟩ := (ext_all h2 e hf hz).get ey
    have e2' := e2.symm.trans g2; cases e2'
    cases e1
    exact ⟨.inr ⟨p, _, hp, rfl⟩, pair_at hp (show Rp K mg ι2 Z2 H2 (.int i) (.int i) from rfl) r2⟩
  · cases hd
section
variable {X : Cx} {T : TW} {W : WX} {pos : Pos} {tg : Expr}
/-- a list or a tuple, walked -/
def iBoth (K : PySem.W.Frag) (tl : TE) : TI := fun σ H R => tl σ H fun x H1 => ∃ a, x = .ref a ∧ ((∃ xs, SqL K H1 a xs) ∧ R (Itl K a) H1 ∨ (∃ xs, SqT K H1 a xs) ∧ R (Itt K a) H1)
theorem pi_both {l : Expr} {tl : TE} (hl : PE X l tl) : PI X tg l (iBoth X.K tl) := by
  refine ⟨fun pins s σ H R I h => ?_⟩
  refine thn (hl.run pins s σ H _ I h) fun v s1 ⟨x, H1, I1, r1, q1⟩ => ?_
  obtain ⟨a, e, q⟩ := q1
  subst e
  cases r1
  rcases q with ⟨⟨xs, hq⟩, q⟩ | ⟨⟨xs, hq⟩, q⟩
  · obtain ⟨its, rv, p, hz⟩ := I1.list hq
    refine wpAny_pyIter_list p.isList ?_
    refine ⟨s1.heap.objs.size, [s1.heap.objs.size], _, _, H1, rfl, I1.kept (t' := s1.toks) fun b o e => Heap.get?_push_of_some _ e, turn_list a _, ⟨_, Heap.get?_push_size _ rfl, rfl, rfl⟩, fun b hb => ?_, q⟩
    have e : b = s1.heap.objs.size := by simpa using hb
    subst e
    exact I1.fpOk (Nat.le_refl _) (I1.hok.fresh (Nat.le_refl _))
  · obtain ⟨its, rv, p, hz⟩ := I1.tuple hq
    refine wpAny_pyIter_tuple (show s1.heap.IsTuple a its.toArray from p) ?_
    refine ⟨s1.heap.objs.size, [s1.heap.objs.size], _, _, H1, rfl, I1.kept (t' := s1.toks) fun b o e => Heap.get?_push_of_some _ e, turn_tuple a _, ⟨_, Heap.get?_push_size _ rfl, rfl, rfl⟩, fun b hb => ?_, q⟩
    have e : b = s1.heap.objs.size := by simpa using hb
    subst e
    exact I1.fpOk (Nat.le_refl _) (I1.hok.fresh (Nat.le_refl _))
abbrev tI (K : PySem.W.Frag) (mg : Str → Option Value) (T : TW) (W : WX) (it : It) : TI := tR K mg T W (fun ι Z H (xs : List D) (J : L2.It) => WK K mg J xs ι Z H) (evi it)
theorem PI.imp {e : Expr} {t t' : TI} (h : PI X tg e t) (i : ∀ σ H Q, t' σ H Q → t σ H Q) : PI X tg e t' := ⟨fun pins s σ H Q I q => h.run pins s σ H Q I (i σ H Q q)⟩
theorem seqD_cases {d : D} {xs : List D} (h : seqD [] d = some xs) : d = .tup xs ∨ d = .lst xs := by
  unfold seqD at h
  rcases see_cases [] d with e | ⟨n, ys, _, z, _⟩
  · rw [e] at h
    split at h <;> cases h
    · exact .inl rfl
    · exact .inr rfl
  · simp at z
theorem mi_seq {e : Expr} {ce : E} (h : PE X e (tE X.K X.mg T W ce)) : PI X tg e (tI X.K X.mg T W (.seq ce)) :=
  PI.imp (pi_both h) fun σ H R hh => by
    obtain ⟨ι, Z, Zf, μ, δ, g, sr, hp⟩ := hh
    refine ⟨ι, Z, Zf, μ, δ, g, sr, post.bind hp fun x μ1 ι1 v H1 e1 g1 r1 hp1 => ?_⟩
    unfold optR at hp1
    cases ho : seqD [] x with
    | none => rw [ho] at hp1; exact hp1.elim
    | some xs =>
      rw [ho] at hp1
      rcases seqD_cases ho with rfl | rfl
      · obtain ⟨a, vs, rfl, h1, h2⟩ := r1
        exact ⟨a, rfl, .inr ⟨⟨vs, h1.sq⟩, post.ret hp1 g1 (wk_tup h1 h2)⟩⟩
      · obtain ⟨a, vs, rfl, h1, h2⟩ := r1
        exact ⟨a, rfl, .inl ⟨⟨vs, SqL.of h1.1⟩, post.ret hp1 g1 (wk_lst h1 h2)⟩⟩
theorem mi_rng {a : Expr} {ca : E} {p : Pos} (hg : Gl X "range") (hm : X.mg "range" = none) (ha : PA X [a] (tEs X.K X.mg T W (.cons ca .nil))) (hs : starEach [a] X.env = [(false, eval a X.env)]) : PI X tg (.Call (.Name "range" p) [a] [] pos) (tI X.K X.mg T W (.rng ca)) :=
  PI.imp (pi_range1 hg hm ha hs) fun σ H R hh => by
    obtain ⟨ι, Z, Zf, μ, δ, g, sr, hp⟩ := hh
    have e : evi (.rng ca) δ μ = bindR (evs (.cons ca .nil) δ μ) fun xs μ => match xs with
      | [.int j] => if rgOk 0 j = true then retR (rgD 0 j) μ else none
      | _ => none := by
      simp only [evi, evs]
      cases ev ca δ μ with
      | none => rfl
      | some r =>
        obtain ⟨r, μ1⟩ := r
        cases r with
        | error e => rfl
        | ok d => cases d <;> rfl
    rw [e] at hp
    refine ⟨ι, Z, Zf, μ, δ, g, sr, post.bind hp fun xs μ1 ι1 vs H1 e1 g1 r1 hp1 => ?_⟩
    split at hp1
    · rename_i j
      split at hp1
      · rename_i hj
        obtain ⟨v, rfl, hv⟩ := r1.one
        have hv' : v = V.int j := hv
        subst hv'
        unfold rgOk at hj
        simp only [Bool.and_eq_true, decide_eq_true_eq] at hj
        refine ⟨j, rfl, hj.1.2, hj.2, ?_⟩
        have := wk_rng (K := X.K) (mg := X.mg) (ι := ι1) (Z := Z) (H := H1) (i := 0) (j := j)
        rw [Int.sub_zero] at this
        exact post.ret hp1 g1 this
      · exact hp1.elim
    · exact hp1.elim
theorem mi_rng2 {a b : Expr} {ca cb : E} {p : Pos} (hg : Gl X "range") (hm : X.mg "range" = none) (ha : PA X [a, b] (tEs X.K X.mg T W (.cons ca (.cons cb .nil)))) (hs : starEach [a, b] X.env = [(false, eval a X.env), (false, eval b X.env)]) (hs2 : starEach [b] X.env = [(false, eval b X.env)]) :
    PI X tg (.Call (.Name "range" p) [a, b] [] pos) (tI X.K X.mg T W (.rng2 ca cb)) :=
  PI.imp (pi_range2 hg hm ha hs hs2) fun σ H R hh => by
    obtain ⟨ι, Z, Zf, μ, δ, g, sr, hp⟩ := hh
    have e : evi (.rng2 ca cb) δ μ = bindR (evs (.cons ca (.cons cb .nil)) δ μ) fun xs μ => match xs with
      | [.int i, .int j] => if rgOk i j = true then retR (rgD i j) μ else none
      | _ => none := by
      simp only [evi, evs]
      cases ev ca δ μ with
      | none => rfl
      | some r =>
        obtain ⟨r, μ1⟩ := r
        cases r with
        | error e => rfl
        | ok d =>
          simp only [bindR]
          cases ev cb δ μ1 with
          | none => rfl
          | some r =>
            obtain ⟨r, μ2⟩ := r
            cases r with
            | error e => rfl
            | ok d2 => cases d <;> cases d2 <;> rfl
    rw [e] at hp
    refine ⟨ι, Z, Zf, μ, δ, g, sr, post.bind hp fun xs μ1 ι1 vs H1 e1 g1 r1 hp1 => ?_⟩
    split at hp1
    · rename_i i j
      split at hp1
      · rename_i hj
        obtain ⟨v, w, rfl, hv, hw⟩ := r1.two
        have hv' : v = V.int i := hv
        have hw' : w = V.int j := hw
        subst hv' hw'
        unfold rgOk at hj
        simp only [Bool.and_eq_true, decide_eq_true_eq] at hj
        exact ⟨i, j, rfl, ⟨hj.1.1.1, hj.1.1.2, hj.1.2, hj.2⟩, post.ret hp1 g1 wk_rng⟩
      · exact hp1.elim
    · exact hp1.elim
theorem mi_zip {e e2 : Expr} {c1 c2 : E} {p tpos : Pos} {elts : List Expr} {kk : Nat} (hg : Gl X "zip") (hm : X.mg "zip" = none) (ha : PA X [e, e2] (tEs X.K X.mg T W (.cons c1 (.cons c2 .nil))))
    (hs : starEach [e, e2] X.env = (false, eval e X.env) :: starEach [e2] X.env) (hpl : (backTo pos (starEach [e2] X.env)).any (·.1) = false) :
    PI X (.Tuple elts kk tpos) (.Call (.Name "zip" p) [e, e2] [] pos) (tI X.K X.mg T W (.zip c1 c2)) :=
  PI.imp (pi_zipA hg hm ha hs hpl) fun σ H R hh => by
    obtain ⟨ι, Z, Zf, μ, δ, g, sr, hp⟩ := hh
    have e : evi (.zip c1 c2) δ μ = bindR (evs (.cons c1 (.cons c2 .nil)) δ μ) fun xs μ => match xs with
      | [x, y] => optR (zipK x y) μ
      | _ => none := by
      simp only [evi, evs]
      cases ev c1 δ μ with
      | none => rfl
      | some r =>
        obtain ⟨r, μ1⟩ := r
        cases r with
        | error e => rfl
        | ok d =>
          simp only [bindR]
          cases ev c2 δ μ1 with
          | none => rfl
          | some r =>
            obtain ⟨r, μ2⟩ := r
            cases r with
            | error e => rfl
            | ok d2 => rfl
    rw [e] at hp
    refine ⟨ι, Z, Zf, μ, δ, g, sr, post.bind hp fun xs μ1 ι1 vs H1 e1 g1 r1 hp1 => ?_⟩
    split at hp1
    · rename_i x y
      obtain ⟨v, w, rfl, hv, hw⟩ := r1.two
      unfold optR at hp1
      cases ho : zipK x y with
      | none => rw [ho] at hp1; exact hp1.elim
      | some zs =>
        rw [ho] at hp1
        unfold zipK at ho
        split at ho <;> cases ho
        · obtain ⟨a, vs, rfl, h1, h2⟩ := hv
          obtain ⟨b, ws, rfl, h3, h4⟩ := hw
          exact ⟨a, b, vs, ws, rfl, .inl ⟨SqL.of h1.1, SqL.of h3.1, post.ret hp1 g1 (wk_zipL h1 h2 h3 h4)⟩⟩
        · obtain ⟨a, vs, rfl, h1, h2⟩ := hv
          obtain ⟨b, ws, rfl, h3, h4⟩ := hw
          exact ⟨a, b, vs, ws, rfl, .inr ⟨h1.sq, h3.sq, post.ret hp1 g1 (wk_zipT h1 h2 h3 h4)⟩⟩
    · exact hp1.elim
theorem mi_enum {e : Expr} {c1 : E} {p tpos : Pos} {elts : List Expr} {kk : Nat} (hg : Gl X "enumerate") (hm : X.mg "enumerate" = none) (ha : PA X [e] (tEs X.K X.mg T W (.cons c1 .nil)))
    (hs : starEach [e] X.env = [(false, eval e X.env)]) : PI X (.Tuple elts kk tpos) (.Call (.Name "enumerate" p) [e] [] pos) (tI X.K X.mg T W (.enum c1)) :=
  PI.imp (Mt2.pi_enumA hg hm ha hs) fun σ H R hh => by
    obtain ⟨ι, Z, Zf, μ, δ, g, sr, hp⟩ := hh
    have e : evi (.enum c1) δ μ = bindR (evs (.cons c1 .nil) δ μ) fun xs μ => match xs with
      | [x] => optR (enumK x) μ
      | _ => none := by
      simp only [evi, evs]
      cases ev c1 δ μ with
      | none => rfl
      | some r =>
        obtain ⟨r, μ1⟩ := r
        cases r with
        | error e => rfl
        | ok d => rfl
    rw [e] at hp
    refine ⟨ι, Z, Zf, μ, δ, g, sr, post.bind hp fun xs μ1 ι1 vs H1 e1 g1 r1 hp1 => ?_⟩
    split at hp1
    · rename_i x
      obtain ⟨v, rfl, hv⟩ := r1.one
      unfold optR at hp1
      cases ho : enumK x with
      | none => rw [ho] at hp1; exact hp1.elim
      | some zs =>
        rw [ho] at hp1
        unfold enumK at ho
        split at ho <;> cases ho
        · obtain ⟨a, vs, rfl, h1, h2⟩ := hv
          exact ⟨a, rfl, .inl ⟨vs, SqL.of h1.1, post.ret hp1 g1 (wk_enumL h1 h2)⟩⟩
        · obtain ⟨a, vs, rfl, h1, h2⟩ := hv
          exact ⟨a, rfl, .inr ⟨vs, h1.sq, post.ret hp1 g1 (wk_enumT h1 h2)⟩⟩
    · exact hp1.elim
end
/-! ### comprehensions -/
section
variable {X : Cx} {T : TW} {W : WX} {pos : Pos}
theorem SR.extZ {K : PySem.W.Frag} {mg : Str → Option Value} {ι Z Zf ι' Z' : List Addr} {H H' : Hp} {μ : List Mo} {δ : List Sl} {σ : L2.St} (g : RG K mg T ι Z H μ) (s : SR K mg ι Z Zf H δ σ) (e : Ext ι [] H ι' H') (hz : ∀ z ∈ Z', z ∈ Z ∨ H z = none) (hf : ∀ z ∈ Z, z ∈ Z') : SR K mg ι' Z' Zf H' δ σ := by
  refine ⟨s.len, fun i x hx => ?_, s.apart, fun z h => hf z (s.sub z h)⟩
  have h := s.ok i x hx
  cases x with
  | un => trivial
  | d x => obtain ⟨v, h1, h2⟩ := h; exact ⟨v, h1, Rp.ext e (by simp) hz x v h2⟩
  | lin xs =>
    obtain ⟨a, vs, h1, h2, h3, h4⟩ := h
    exact ⟨a, vs, h1, h2, e.keep a _ h3 (g.zl a (s.sub a h2)).2 (by simp) (fun _ z => by cases z), Rps.ext e (by simp) hz _ _ h4⟩
theorem ext_updZ {ι : List Addr} {H : Hp} {z : Addr} {vs ws : List V} (h : H z = some (.lst vs)) : Ext ι [z] H ι (upd H z (.lst ws)) := by
  refine ⟨⟨[], by simp, by simp⟩, fun a o q _ n _ => ?_, fun a o q => ?_, fun a xs q => ?_⟩
  · rw [upd_ne (by simpa using n)]; exact q
  · by_cases e : a = z
    · subst e; exact ⟨_, upd_same⟩
    · exact ⟨o, by rw [upd_ne e]; exact q⟩
  · have : a ≠ z := fun e => by subst e; rw [h] at q; cases q
    rw [upd_ne this]; exact q
theorem RG.updZ {K : PySem.W.Frag} {mg : Str → Option Value} {ι Z : List Addr} {H : Hp} {μ : List Mo} (g : RG K mg T ι Z H μ) {z : Addr} {vs ws : List V} (hz : z ∈ Z) (h : H z = some (.lst vs)) : RG K mg T ι Z (upd H z (.lst ws)) μ := by
  have e := ext_updZ (ι := ι) (ws := ws) h
  refine ⟨g.nd, g.len, fun n m hm => ?_, fun y hy => ⟨?_, (g.zl y hy).2⟩, ?_⟩
  · obtain ⟨a, h1, h2⟩ := g.mem n m hm
    refine ⟨a, h1, h2.ext e (by simpa using hz) (fun _ q => .inl q) (upd_ne fun q => (g.zl z hz).2 ?_)⟩
    rw [← q]; exact List.mem_of_getElem? h1
  · by_cases q : y = z
    · subst q; exact ⟨ws, upd_same⟩
    · obtain ⟨us, hu⟩ := (g.zl y hy).1
      exact ⟨us, by rw [upd_ne q]; exact hu⟩
  · intro p hp
    obtain ⟨ps, h1, h2, h3⟩ := g.tabs p hp
    refine ⟨ps, ?_, h2, fun pos cv hc => ?_⟩
    · rw [upd_ne (ne_of h1 h (by simp))]; exact h1
    · obtain ⟨c, e1, e2⟩ := h3 pos cv hc
      exact ⟨c, e1, by rw [upd_ne (ne_of e2 h (by unfold LamX.CodeO; simp))]; exact e2⟩
theorem RG.weakZ {K : PySem.W.Frag} {mg : Str → Option Value} {ι Z Z' : List Addr} {H : Hp} {μ : List Mo} (g : RG K mg T ι Z H μ) (h : ∀ z ∈ Z', z ∈ Z) : RG K mg T ι Z' H μ :=
  ⟨g.nd, g.len, fun n m hm => let ⟨a, h1, h2⟩ := g.mem n m hm; ⟨a, h1, h2.ext (Zf := []) Ext.refl (by simp) (fun z q => .inl (h z q)) rfl⟩, fun z q => g.zl z (h z q), g.tabs⟩
/-- one address more that is held by one name alone -/
theorem RG.consZ {K : PySem.W.Frag} {mg : Str → Option Value} {ι Z : List Addr} {H : Hp} {μ : List Mo} (g : RG K mg T ι Z H μ) {p : Addr} {vs : List V} (hp : H p = none) : RG K mg T ι (p :: Z) (upd H p (.lst vs)) μ := by
  have g1 : RG K mg T ι Z (upd H p (.lst vs)) μ := g.fresh hp
  have e : Ext ι [] H ι (upd H p (.lst vs)) := ext_fresh hp
  refine ⟨g.nd, g.len, fun n m hm => ?_, fun z hz => ?_, g1.tabs⟩
  · obtain ⟨a, h1, h2⟩ := g.mem n m hm
    obtain ⟨u, q, _⟩ := h2.at
    refine ⟨a, h1, h2.ext e (by simp) (fun z q => ?_) (upd_ne (ne_of_none q hp))⟩
    rcases List.mem_cons.mp q with q | q
    · rw [q]; exact .inr hp
    · exact .inl q
  · rcases List.mem_cons.mp hz with q | q
    · subst q; exact ⟨⟨vs, upd_same⟩, (g.notin hp).1⟩
    · exact g1.zl z q
theorem takesF {X : Cx} : L2N.Takes X (fun _ _ _ _ => False) := fun _ _ x => by
  obtain ⟨_, _, _, _, _, _, _, _, _, _, _, _, _, _, _, _, z⟩ := x
  exact z.elim
theorem wipe_in {σ : L2.St} {i : Nat} (hl : i < σ.length) : ∀ {vs : List Nat}, i ∈ vs → (wipe σ vs)[i]? = some none
  | v :: vs, h => by
    unfold wipe
    by_cases e : v = i
    · subst e
      rw [List.getElem?_set_self (by rw [wipe_length]; exact hl)]
    · rw [List.getElem?_set_ne e]
      rcases List.mem_cons.mp h with q | q
      · exact absurd q.symm e
      · exact wipe_in hl q
theorem wipe_wipe (σ : L2.St) (vs : List Nat) : wipe (wipe σ vs) vs = wipe σ vs := by
  refine List.ext_getElem? fun i => ?_
  by_cases h : i ∈ vs
  · by_cases hl : i < σ.length
    · rw [wipe_in (by rw [wipe_length]; exact hl) h, wipe_in hl h]
    · rw [List.getElem?_eq_none (by rw [wipe_length, wipe_length]; omega), List.getElem?_eq_none (by rw [wipe_length]; omega)]
  · rw [wipe_out h]
abbrev WF : WX := fun _ _ _ _ => False
theorem noE_post {α β : Type} {K : PySem.W.Frag} {mg : Str → Option Value} {rel : List Addr → List Addr → Hp → α → β → Prop} {ι Z : List Addr} {H : Hp} {Q : β → Hp → Prop} {r : RM α} {a : α} {μ : List Mo} {W : Value → Option Addr → Hp → Prop} (e : noE r = some (a, μ)) (h : ∀ ι' b H', Ext ι [] H ι' H' → RG K mg T ι' Z H' μ → rel ι' Z H' a b → Q b H') : post K mg T rel ι Z H r Q W := by
  match r, e with
  | some (.ok a, μ), e => cases e; exact h
theorem to_comp {ct : Tg} {ci : It} {cc ce : E} {vs : List Nat} (hsl : ∀ i ∈ ct.slots, i ∈ vs) {σ : L2.St} {H : Hp} {Q : VK} (hh : tE X.K X.mg T W (.comp ce ct ci cc vs) σ H Q) :
    tLc (tI X.K X.mg T W ci) (gT X.K X.mg T ct) (tT X.K X.mg T WF cc) (tE X.K X.mg T WF ce) vs σ H Q := by
  obtain ⟨ι, Z, Zf, μ, δ, g, sr, hp⟩ := hh
  refine ⟨ι, Z, Zf, μ, δ, g, sr, post.bind hp fun xs μ1 ι1 J H1 e1 g1 wk hp1 => ?_⟩
  intro D hD
  obtain ⟨G, Y, wlk, hG, hY⟩ := wk
  have sr1 := sr.ext g e1
  have hz0 : ∀ z ∈ D :: Z, z ∈ Z ∨ H1 z = none := fun z q => by
    rcases List.mem_cons.mp q with q | q
    · rw [q]; exact .inr hD
    · exact .inl q
  have hDZ : D ∉ Z := (g1.notin hD).2
  refine lc_it wlk (fun i H2 => ∃ ι2 μ2 acc av, Ext ι1 [] H1 ι2 H2 ∧ RG X.K X.mg T ι2 (D :: Z) H2 μ2 ∧ H2 D = some (.lst av) ∧ Rps X.K X.mg ι2 (D :: Z) H2 acc av ∧ post X.K X.mg T (Rp X.K X.mg) ι1 Z H1 (compL ct (ev cc) (ev ce) (wipeS δ vs) (xs.drop i) acc μ2) Q (WS W σ))
    ⟨ι1, μ1, [], [], ext_fresh hD, g1.consZ hD, upd_same, rfl, by simpa using hp1⟩ (fun i H2 _ ⟨ι2, μ2, acc, av, e2, _⟩ => hG ι2 [] H2 e2 (by simp)) ?_ ?_
  · rintro i x H2 H3 hi ⟨ι2, μ2, acc, av, e2, g2, hD2, ra, hp2⟩ y
    obtain ⟨d, hd⟩ : ∃ d, xs[i]? = some d := ⟨xs[i], List.getElem?_eq_getElem hi⟩
    obtain ⟨hh, rd⟩ := hY i d ι2 [] (D :: Z) H2 H3 x hd e2 (by simp) hz0 y
    have st3 : Ext ι2 [] H2 ι2 H3 ∧ RG X.K X.mg T ι2 (D :: Z) H3 μ2 ∧ H3 D = some (.lst av) := by
      rcases hh with rfl | ⟨p, o, hpn, rfl⟩
      · exact ⟨Ext.refl, g2, hD2⟩
      · exact ⟨ext_fresh hpn, g2.fresh hpn, by rw [upd_ne (ne_of_none hD2 hpn)]; exact hD2⟩
    obtain ⟨e3, g3, hD3⟩ := st3
    have ed : xs.drop i = d :: xs.drop (i + 1) := by
      rw [List.drop_eq_getElem_cons hi]
      congr 1
      have := List.getElem?_eq_getElem hi
      rw [hd] at this; exact (Option.some.inj this).symm
    rw [ed] at hp2
    unfold compL at hp2
    have e13 : Ext ι1 [] H1 ι2 H3 := e2.trans0 e3
    have sr3 : SR X.K X.mg ι2 (D :: Z) Zf H3 δ σ := sr1.extZ g1 e13 hz0 (fun z q => List.mem_cons_of_mem _ q)
    cases h1 : ct.put d (wipeS δ vs) with
    | none => rw [h1] at hp2; exact hp2.elim
    | some δ1 =>
      rw [h1] at hp2
      simp only [Option.bind_some] at hp2
      cases h2 : noE (ev cc δ1 μ2) with
      | none => rw [h2] at hp2; exact hp2.elim
      | some r =>
        obtain ⟨k, μ3⟩ := r
        rw [h2] at hp2
        simp only [Option.bind_some] at hp2
        refine ⟨ι2, D :: Z, Zf, wipeS δ vs, d, δ1, sr3.wipe vs, rd, h1, fun σ2 sr4 hw => ⟨by rw [hw vs hsl]; exact wipe_wipe σ vs, ?_⟩⟩
        cases k with
        | bl k =>
          refine ⟨ι2, D :: Z, Zf, μ2, δ1, g3, sr4, ?_⟩
          have h2' : noE (evT cc δ1 μ2) = some (k, μ3) := by
            unfold evT
            match hq : ev cc δ1 μ2, h2 with
            | some (.ok (.bl k'), μ'), h2 => simp only [noE, Option.some.injEq, Prod.mk.injEq, Mi.D.bl.injEq] at h2; obtain ⟨rfl, rfl⟩ := h2; rfl
          refine noE_post h2' fun ι5 b H5 e5 g5 hb => ?_
          subst hb
          have hD5 : H5 D = some (.lst av) := e5.keep D _ hD3 (g3.zl D (List.mem_cons_self ..)).2 (by simp) (fun _ z => by cases z)
          cases k with
          | false =>
            exact iteF ⟨ι5, μ3, acc, av, e13.trans0 e5, g5, hD5, (ra.ext0 e3).ext0 e5, hp2⟩
          | true =>
            simp only at hp2
            cases h3 : noE (ev ce δ1 μ3) with
            | none => rw [h3] at hp2; exact hp2.elim
            | some r =>
              obtain ⟨q, μ4⟩ := r
              rw [h3] at hp2
              simp only [Option.bind_some] at hp2
              split at hp2
              · rename_i hl
                refine iteT ⟨ι5, D :: Z, Zf, μ3, δ1, g5, sr4.ext g3 e5, noE_post h3 fun ι6 y6 H6 e6 g6 r6 => ?_⟩
                have hD6 : H6 D = some (.lst av) := e6.keep D _ hD5 (g5.zl D (List.mem_cons_self ..)).2 (by simp) (fun _ z => by cases z)
                have ra6 := ((ra.ext0 e3).ext0 e5).ext0 e6
                have eU := ext_updZ (ι := ι6) (ws := av ++ [y6]) hD6
                have sub : ∀ z ∈ [D], z ∈ D :: Z := by simp
                refine ⟨av, hD6, by rw [← ra.length]; exact hl, ι6, μ4, acc ++ [q], av ++ [y6], ?_, g6.updZ (List.mem_cons_self ..) hD6, upd_same, ?_, hp2⟩
                · exact ((e13.trans0 e5).trans0 e6).trans eU (fun z q => .inr (by rw [List.mem_singleton.mp q]; exact hD))
                · exact Rps.append (Rps.ext eU sub (fun z q => .inl q) _ _ ra6) ⟨y6, [], rfl, Rp.ext eU sub (fun z q => .inl q) _ _ r6, rfl⟩
              · exact hp2.elim
        | _ => exact hp2.elim
  · rintro H2 ⟨ι2, μ2, acc, av, e2, g2, hD2, ra, hp2⟩
    rw [List.drop_length] at hp2
    have hDι : D ∉ ι2 := (g2.zl D (List.mem_cons_self ..)).2
    exact hp2 ι2 _ H2 e2 (g2.weakZ fun z q => List.mem_cons_of_mem _ q) ⟨D, av, rfl, ⟨hD2, hDι, hDZ⟩, ra.weak fun z q => List.mem_cons_of_mem _ q⟩
theorem m_comp {elt iter : Expr} {tg : Expr} {ifs : List Expr} {scope : Scope} {own : List (Str × Nat)} {ct : Tg} {ci : It} {cc ce : E} (hc : X.calm = true) (hN : X.N.Nodup) (hi : PI X tg iter (tI X.K X.mg T W ci)) (ok : BlkOk X.N X.env.scope scope own)
    (hg : ∀ (s : Shared) (H : Hp) (C : Addr) (cl : List (Str × Addr)) (fp : List Addr), PG (X.blk s H scope (compEnvC scope cl C X.env) fp) tg (gT X.K X.mg T ct))
    (ht : ∀ (s : Shared) (H : Hp) (C : Addr) (cl : List (Str × Addr)) (fp : List Addr), PTs (X.blk s H scope (compEnvC scope cl C X.env) fp) ifs (tT X.K X.mg T WF cc))
    (he : ∀ (s : Shared) (H : Hp) (C : Addr) (cl : List (Str × Addr)) (fp : List Addr), PE (X.blk s H scope (compEnvC scope cl C X.env) fp) elt (tE X.K X.mg T WF ce)) (hs : ∀ x, foldedSetIterable iter X.env x = pure x)
    (vs : List Nat) (hvs : vs = own.map (·.2)) (hsl : ∀ i ∈ ct.slots, i ∈ vs) : PE X (.ListComp elt [⟨tg, iter, ifs, 0⟩] scope pos) (tE X.K X.mg T W (.comp ce ct ci cc vs)) :=
  PE.imp (pe_lc hc hN hi ok hg ht he hs) fun σ H Q hh => by
    rw [← hvs]
    exact to_comp hsl hh
end
end Mi
set_option Elab.async false
set_option linter.all false
set_option maxRecDepth 100000
set_option maxHeartbeats 4000000
/-! Mu: statements, a def's body. -/
namespace Mi
open PySem PySem.Spec PyProof.Rows L2 RZ
/-- the state of a body: Zf the lists that its own names hold alone, Zo those of others -/
structure SX (K : PySem.W.Frag) (mg : Str → Option Value) (T : TW) (ι Zo Zf : List Addr) (H : Hp) (μ : List Mo) (δ : List Sl) (σ : L2.St) : Prop where
  g : RG K mg T ι (Zo ++ Zf) H μ
  s : SR K mg ι (Zo ++ Zf) Zf H δ σ
  dj : ∀ z ∈ Zf, z ∉ Zo
/-- what comes of a statement -/
def pS (K : PySem.W.Frag) (mg : Str → Option Value) (T : TW) (W : WX) (r : SM) (ι Zo Zf : List Addr) (H : Hp) (D : Ends) : Prop := match r with
  | none => False
  | some (fl, δ', μ') => ∀ ι' Zf' σ' H', Ext ι Zf H ι' H' → (∀ z ∈ Zf', z ∈ Zf ∨ H z = none) → SX K mg T ι' Zo Zf' H' μ' δ' σ' → match fl with
    | .nx => D.nx σ' H'
    | .bk => D.bk σ' H'
    | .ct => D.ct σ' H'
    | .rt d => ∀ v, Rp K mg ι' (Zo ++ Zf') H' d v → D.rt v H'
    | .ex e => ∀ cv dx, XR mg e cv dx H' → W cv dx σ' H'
def tX (K : PySem.W.Frag) (mg : Str → Option Value) (T : TW) (W : WX) (f : List Sl → List Mo → SM) : TS := fun D σ H => ∃ ι Zo Zf μ δ, SX K mg T ι Zo Zf H μ δ σ ∧ pS K mg T W (f δ μ) ι Zo Zf H D
abbrev tS (K : PySem.W.Frag) (mg : Str → Option Value) (T : TW) (W : WX) (c : St) : TS := tX K mg T W (ex c)
abbrev tSs (K : PySem.W.Frag) (mg : Str → Option Value) (T : TW) (W : WX) (c : Ss) : TS := tX K mg T W (exs c)
theorem PS.imp {X : Cx} {e : Stmt} {t t' : TS} (h : PS X e t) (i : ∀ D σ H, t' D σ H → t D σ H) : PS X e t' := ⟨fun pins s σ H D I q => h.run pins s σ H D I (i D σ H q)⟩
theorem PSs.imp {X : Cx} {e : List Stmt} {t t' : TS} (h : PSs X e t) (i : ∀ D σ H, t' D σ H → t D σ H) : PSs X e t' := ⟨fun pins s σ H D I q => h.run pins s σ H D I (i D σ H q)⟩
section
variable {K : PySem.W.Frag} {mg : Str → Option Value} {T : TW} {W : WX} {ι Zo Zf ι1 Zf1 : List Addr} {H H1 : Hp} {D D' : Ends} {r : SM}
theorem pS.mono (h : pS K mg T W r ι Zo Zf H D) (e : Ext ι Zf H ι1 H1) (hz : ∀ z ∈ Zf1, z ∈ Zf ∨ H z = none) : pS K mg T W r ι1 Zo Zf1 H1 D := by
  match r, h with
  | some (fl, δ', μ'), h =>
    intro ι' Zf' σ' H' e' hz' s
    refine h ι' Zf' σ' H' (e.trans e' hz) (fun z hq => ?_) s
    rcases hz' z hq with q | q
    · exact hz z q
    · exact .inr (e.free q)
theorem pS.nx {δ : List Sl} {σ : L2.St} {μ : List Mo} (h : pS K mg T W (some (.nx, δ, μ)) ι Zo Zf H D) (s : SX K mg T ι Zo Zf H μ δ σ) : D.nx σ H := h ι Zf σ H Ext.refl (fun _ z => .inl z) s
/-- an expression first -/
theorem pS.thenE {α β : Type} {rel : List Addr → List Addr → Hp → α → β → Prop} {x : RM α} {δ : List Sl} {σ : L2.St} {μ : List Mo} {f : α → List Mo → SM} {Q : β → Hp → Prop} (h : pS K mg T W (thenE x δ f) ι Zo Zf H D) (s : SX K mg T ι Zo Zf H μ δ σ)
    (q : ∀ a μ1 ι1 b H1, Ext ι [] H ι1 H1 → rel ι1 (Zo ++ Zf) H1 a b → SX K mg T ι1 Zo Zf H1 μ1 δ σ → pS K mg T W (f a μ1) ι1 Zo Zf H1 D → Q b H1) : post K mg T rel ι (Zo ++ Zf) H x Q (WS W σ) := by
  match x, h with
  | some (.error e, μ1), h =>
    intro ι1 H1 cv dx e1 g1 xr
    exact h ι1 Zf σ H1 (e1.mono (by simp)) (fun _ z => .inl z) ⟨g1, s.s.ext s.g e1, s.dj⟩ cv dx xr
  | some (.ok a, μ1), h =>
    intro ι1 b H1 e1 g1 r1
    exact q a μ1 ι1 b H1 e1 r1 ⟨g1, s.s.ext s.g e1, s.dj⟩ (h.mono (e1.mono (by simp)) fun _ z => .inl z)
end
section
variable {X : Cx} {T : TW} {W : WX} {pos : Pos} {e : Expr} {ce : E}
theorem s_pass : PS X (.Pass pos) (tS X.K X.mg T W .pass) := PS.imp ps_pass fun D σ H h => by
  obtain ⟨ι, Zo, Zf, μ, δ, s, hp⟩ := h
  simp only [ex] at hp
  exact hp.nx s
theorem s_doc {x j pos'} : PS X (.Expr (.Constant (.str x) j pos) pos') (tS X.K X.mg T W .pass) := PS.imp ps_doc fun D σ H h => by
  obtain ⟨ι, Zo, Zf, μ, δ, s, hp⟩ := h
  simp only [ex] at hp
  exact hp.nx s
theorem s_brk : PS X (.Break pos) (tS X.K X.mg T W .brk) := PS.imp ps_break fun D σ H h => by
  obtain ⟨ι, Zo, Zf, μ, δ, s, hp⟩ := h
  simp only [ex] at hp
  exact hp ι Zf σ H Ext.refl (fun _ z => .inl z) s
theorem s_cont : PS X (.Continue pos) (tS X.K X.mg T W .cont) := PS.imp ps_continue fun D σ H h => by
  obtain ⟨ι, Zo, Zf, μ, δ, s, hp⟩ := h
  simp only [ex] at hp
  exact hp ι Zf σ H Ext.refl (fun _ z => .inl z) s
theorem s_expr (he : PE X e (tE X.K X.mg T W ce)) (hs : swapsWith e none pos.line X.env = pure false) : PS X (.Expr e pos) (tS X.K X.mg T W (.expr ce)) :=
  PS.imp (ps_expr he hs) fun D σ H h => by
    obtain ⟨ι, Zo, Zf, μ, δ, s, hp⟩ := h
    simp only [ex] at hp
    exact ⟨ι, Zo ++ Zf, Zf, μ, δ, s.g, s.s, hp.thenE s fun a μ1 ι1 b H1 e1 r1 s1 h1 => h1.nx s1⟩
theorem s_ret (he : PE X e (tE X.K X.mg T W ce)) : PS X (.Return (some e) pos) (tS X.K X.mg T W (.ret ce)) :=
  PS.imp (ps_ret he) fun D σ H h => by
    obtain ⟨ι, Zo, Zf, μ, δ, s, hp⟩ := h
    simp only [ex] at hp
    exact ⟨ι, Zo ++ Zf, Zf, μ, δ, s.g, s.s, hp.thenE s fun a μ1 ι1 b H1 e1 r1 s1 h1 => h1 ι1 Zf σ H1 Ext.refl (fun _ z => .inl z) s1 b r1⟩
theorem s_retn : PS X (.Return none pos) (tS X.K X.mg T W .retn) := PS.imp ps_retN fun D σ H h => by
  obtain ⟨ι, Zo, Zf, μ, δ, s, hp⟩ := h
  simp only [ex] at hp
  exact hp ι Zf σ H Ext.refl (fun _ z => .inl z) s .non rfl
/-- behind a target -/
theorem put_nx {ct : Tg} {x : Mi.D} {v : V} {ι Zo Zf : List Addr} {μ : List Mo} {δ : List Sl} {σ : L2.St} {H : Hp} {D : Ends} (s : SX X.K X.mg T ι Zo Zf H μ δ σ) (r : Rp X.K X.mg ι (Zo ++ Zf) H x v)
    {f : List Sl → SM} (hp : pS X.K X.mg T W ((ct.put x δ).bind f) ι Zo Zf H D) {Q : L2.St → Hp → Prop} (q : ∀ δ' σ', SX X.K X.mg T ι Zo Zf H μ δ' σ' → pS X.K X.mg T W (f δ') ι Zo Zf H D → Q σ' H) : gT X.K X.mg T ct v σ H Q := by
  cases h : ct.put x δ with
  | none => rw [h] at hp; exact hp.elim
  | some δ' =>
    rw [h] at hp
    exact ⟨ι, Zo ++ Zf, Zf, δ, x, δ', s.s, r, h, fun σ' s' _ => q δ' σ' ⟨s.g, s', s.dj⟩ hp⟩
theorem to_set {ct : Tg} {D : Ends} {σ : L2.St} {H : Hp} (h : tS X.K X.mg T W (.set ct ce) D σ H) : tAsg (tE X.K X.mg T W ce) (gT X.K X.mg T ct) D σ H := by
  obtain ⟨ι, Zo, Zf, μ, δ, s, hp⟩ := h
  simp only [ex] at hp
  exact ⟨ι, Zo ++ Zf, Zf, μ, δ, s.g, s.s, hp.thenE s fun a μ1 ι1 b H1 e1 r1 s1 h1 => put_nx s1 r1 h1 fun δ' σ' s' h' => h'.nx s'⟩
theorem s_set {tg : Expr} {ct : Tg} (he : PE X e (tE X.K X.mg T W ce)) (hg : PG X tg (gT X.K X.mg T ct)) (hs : swapsWithSole [tg] e pos.line X.env = pure false) (hw : swappedStores [tg] e X.env = pure none) (h1 : (assignEach [tg] X.env).map (·.2) = [assign tg X.env]) :
    PS X (.Assign [tg] e pos) (tS X.K X.mg T W (.set ct ce)) := PS.imp (ps_asg he hg hs hw h1) fun D σ H h => to_set h
/-- name = [..] where the comprehension stores at once -/
theorem s_setLc {i : Nat} {y : Str} {py cpos : Pos} {elt iter : Expr} {tg : Expr} {ifs : List Expr} {scope : Scope} {own : List (Str × Nat)} {ct : Tg} {ci : It} {cc ce : E} (hc : X.calm = true) (hN : X.N.Nodup) (hy : X.N[i]? = some y) (hyl : X.env.scope.names.lookup y = some .local)
    (hsw : swapsWith (.ListComp elt [⟨tg, iter, ifs, 0⟩] scope cpos) (some (.Name y py)) pos.line X.env = pure true) (hi : PI X tg iter (tI X.K X.mg T W ci)) (ok : BlkOk X.N X.env.scope scope own)
    (hg : ∀ (s : Shared) (H : Hp) (C : Addr) (cl : List (Str × Addr)) (fp : List Addr), PG (X.blk s H scope (compEnvC scope cl C X.env) fp) tg (gT X.K X.mg T ct))
    (ht : ∀ (s : Shared) (H : Hp) (C : Addr) (cl : List (Str × Addr)) (fp : List Addr), PTs (X.blk s H scope (compEnvC scope cl C X.env) fp) ifs (tT X.K X.mg T WF cc))
    (he : ∀ (s : Shared) (H : Hp) (C : Addr) (cl : List (Str × Addr)) (fp : List Addr), PE (X.blk s H scope (compEnvC scope cl C X.env) fp) elt (tE X.K X.mg T WF ce)) (hs : ∀ x, foldedSetIterable iter X.env x = pure x)
    (vs : List Nat) (hvs : vs = own.map (·.2)) (hsl : ∀ i ∈ ct.slots, i ∈ vs) : PS X (.Assign [.Name y py] (.ListComp elt [⟨tg, iter, ifs, 0⟩] scope cpos) pos) (tS X.K X.mg T W (.set (.name i) (.comp ce ct ci cc vs))) :=
  PS.imp (ps_setLc hc hN hy hyl hsw hi ok hg ht he hs) fun D σ H h => by
    rw [← hvs]
    have h2 : tE X.K X.mg T W (.comp ce ct ci cc vs) σ H fun x H1 => gName i x σ H1 D.nx := by
      obtain ⟨ι, Zo, Zf, μ, δ, s, hp⟩ := h
      simp only [ex] at hp
      refine ⟨ι, Zo ++ Zf, Zf, μ, δ, s.g, s.s, hp.thenE s fun a μ1 ι1 b H1 e1 r1 s1 h1 => ?_⟩
      simp only [Tg.put, Option.bind_some] at h1
      exact h1.nx ⟨s1.g, s1.s.set r1, s1.dj⟩
    exact to_comp hsl h2
/-- a, b = x, y stored from the right -/
theorem s_par {i j : Nat} {x y : Str} {a b : Expr} {ca : Es} {px py pt : Pos} {kt k2 pt2} (hc : X.calm = true) (hN : X.N.Nodup) (hi : X.N[i]? = some x) (hj : X.N[j]? = some y) (hij : i ≠ j)
    (hx : X.env.scope.names.lookup x = some .local) (hy : X.env.scope.names.lookup y = some .local) (ha : PA X [a, b] (tEs X.K X.mg T W ca))
    (hw : swappedStores [.Tuple [.Name x px, .Name y py] kt pt] (.Tuple [a, b] k2 pt2) X.env = pure (some [x, y]))
    (hs : swapsWithSole [.Tuple [.Name x px, .Name y py] kt pt] (.Tuple [a, b] k2 pt2) pos.line X.env = pure false) :
    PS X (.Assign [.Tuple [.Name x px, .Name y py] kt pt] (.Tuple [a, b] k2 pt2) pos) (tS X.K X.mg T W (.set (.pair (.name i) (.name j)) (.tup ca))) :=
  PS.imp (ps_par hc hN hi hj hij hx hy ha hw hs) fun D σ H h => by
    obtain ⟨ι, Zo, Zf, μ, δ, s, hp⟩ := h
    simp only [ex, ev] at hp
    refine ⟨ι, Zo ++ Zf, Zf, μ, δ, s.g, s.s, ?_⟩
    have hp2 : pS X.K X.mg T W (thenE (evs ca δ μ) δ fun xs μ => if xs.length ≤ sizeLine then ((Tg.pair (.name i) (.name j)).put (.tup xs) δ).bind fun δ => some (.nx, δ, μ) else none) ι Zo Zf H D := by
      cases h : evs ca δ μ with
      | none => rw [h] at hp; exact hp
      | some r =>
        obtain ⟨r, μ1⟩ := r
        cases r with
        | error e => rw [h] at hp; exact hp
        | ok xs =>
          rw [h] at hp
          simp only [bindR] at hp
          split at hp
          · rename_i hz; simp only [if_pos hz]; exact hp
          · exact hp.elim
    refine hp2.thenE s fun xs μ1 ι1 vs H1 e1 r1 s1 h1 => ?_
    split at h1
    · cases hq : (Tg.pair (.name i) (.name j)).put (.tup xs) δ with
      | none => rw [hq] at h1; exact h1.elim
      | some δ' =>
        obtain ⟨u, w, δ1, e, p1, p2⟩ := put_pair hq
        rcases e with e | e
        rotate_left
        · cases e
        cases e
        rw [hq] at h1
        simp only [Tg.put, Option.some.injEq] at p1 p2
        subst p1 p2
        obtain ⟨v, v', rfl, r2, r3⟩ := r1.two
        exact ⟨v, v', rfl, h1.nx ⟨s1.g, (s1.s.set r2).set r3, s1.dj⟩⟩
    · exact h1.elim
theorem s_if {c : Expr} {a b : List Stmt} {cc : E} {ca cb : Ss} (hc : PT X c (tT X.K X.mg T W cc)) (ha : PSs X a (tSs X.K X.mg T W ca)) (hb : PSs X b (tSs X.K X.mg T W cb)) : PS X (.If c a b pos) (tS X.K X.mg T W (.ite cc ca cb)) :=
  PS.imp (ps_if hc ha hb) fun D σ H h => by
    obtain ⟨ι, Zo, Zf, μ, δ, s, hp⟩ := h
    have hp2 : pS X.K X.mg T W (thenE (evT cc δ μ) δ fun k μ => if k = true then exs ca δ μ else exs cb δ μ) ι Zo Zf H D := by
      simp only [ex] at hp
      unfold evT
      cases h : ev cc δ μ with
      | none => rw [h] at hp; exact hp
      | some r =>
        obtain ⟨r, μ1⟩ := r
        cases r with
        | error e => rw [h] at hp; exact hp
        | ok d =>
          rw [h] at hp
          cases d with
          | bl k => cases k <;> exact hp
          | _ => exact hp
    refine ⟨ι, Zo ++ Zf, Zf, μ, δ, s.g, s.s, hp2.thenE s fun k μ1 ι1 k' H1 e1 r1 s1 h1 => ?_⟩
    subst r1
    cases k with
    | true => exact iteT ⟨ι1, Zo, Zf, μ1, δ, s1, h1⟩
    | false => exact iteF ⟨ι1, Zo, Zf, μ1, δ, s1, h1⟩
/-! ### blocks -/
theorem ss_nil : PSs X [] (tSs X.K X.mg T W .nil) := PSs.imp pss_nil fun D σ H h => by
  obtain ⟨ι, Zo, Zf, μ, δ, s, hp⟩ := h
  simp only [exs] at hp
  exact hp.nx s
theorem ss_cons {st : Stmt} {rest : List Stmt} {c : St} {cs : Ss} (h1 : PS X st (tS X.K X.mg T W c)) (h2 : PSs X rest (tSs X.K X.mg T W cs)) : PSs X (st :: rest) (tSs X.K X.mg T W (.cons c cs)) :=
  PSs.imp (pss_cons h1 h2) fun D σ H h => by
    obtain ⟨ι, Zo, Zf, μ, δ, s, hp⟩ := h
    simp only [exs] at hp
    refine ⟨ι, Zo, Zf, μ, δ, s, ?_⟩
    match hq : ex c δ μ, hp with
    | some (.nx, δ1, μ1), hp => exact fun ι1 Zf1 σ1 H1 e1 z1 s1 => ⟨ι1, Zo, Zf1, μ1, δ1, s1, pS.mono hp e1 z1⟩
    | some (.bk, δ1, μ1), hp => exact hp
    | some (.ct, δ1, μ1), hp => exact hp
    | some (.rt d, δ1, μ1), hp => exact hp
    | some (.ex e, δ1, μ1), hp => exact hp
/-- a list that one name alone held is given out: nobody changes it from here on -/
theorem ss_still {i : Nat} {rest : List Stmt} {cs : Ss} (h2 : PSs X rest (tSs X.K X.mg T W cs)) : PSs X rest (tSs X.K X.mg T W (.cons (.still i) cs)) :=
  PSs.imp h2 fun D σ H h => by
    obtain ⟨ι, Zo, Zf, μ, δ, s, hp⟩ := h
    simp only [exs, ex] at hp
    cases hi : δ[i]? with
    | none => rw [hi] at hp; exact hp.elim
    | some x =>
      rw [hi] at hp
      cases x with
      | lin xs =>
        obtain ⟨a, vs, h1, h2, h3, h4⟩ := s.s.ok i _ hi
        have hl : i < δ.length := (List.getElem?_eq_some_iff.mp hi).1
        have sub1 : ∀ z ∈ Zf.filter (fun z => decide (z ≠ a)), z ∈ Zf := fun z q => (List.mem_filter.mp q).1
        have sub : ∀ z ∈ Zo ++ Zf.filter (fun z => decide (z ≠ a)), z ∈ Zo ++ Zf := fun z q => by
          rcases List.mem_append.mp q with q | q
          · exact List.mem_append_left _ q
          · exact List.mem_append_right _ (sub1 z q)
        have na : a ∉ Zo ++ Zf.filter (fun z => decide (z ≠ a)) := fun q => by
          rcases List.mem_append.mp q with q | q
          · exact s.dj a h2 q
          · have := (List.mem_filter.mp q).2
            simp at this
        refine ⟨ι, Zo, Zf.filter (fun z => decide (z ≠ a)), μ, δ.set i (.d (.lst xs)), ⟨s.g.weakZ sub, ?_, fun z q => s.dj z (sub1 z q)⟩, pS.mono hp Ext.refl fun z q => .inl (sub1 z q)⟩
        refine ⟨by rw [List.length_set]; exact s.s.len, fun j y hy => ?_, fun j k ys zs b q1 q2 q3 q4 => ?_, fun z q => List.mem_append_right _ q⟩
        · by_cases e : i = j
          · subst e
            rw [List.getElem?_set_self hl] at hy
            cases hy
            exact ⟨.ref a, h1, a, vs, rfl, ⟨h3, (s.g.zl a (List.mem_append_right _ h2)).2, na⟩, h4.weak sub⟩
          · rw [List.getElem?_set_ne e] at hy
            have hj := s.s.ok j y hy
            cases y with
            | un => trivial
            | d x => obtain ⟨v, e1, e2⟩ := hj; exact ⟨v, e1, e2.weak sub⟩
            | lin ys =>
              obtain ⟨b, ws, e1, e2, e3, e4⟩ := hj
              refine ⟨b, ws, e1, List.mem_filter.mpr ⟨e2, decide_eq_true fun q => ?_⟩, e3, e4.weak sub⟩
              subst q
              exact e (s.s.apart i j xs ys b hi hy h1 e1)
        · have nj : ∀ (j : Nat) (ys : List Mi.D), (δ.set i (Sl.d (.lst xs)))[j]? = some (Sl.lin ys) → δ[j]? = some (Sl.lin ys) := fun j ys hj => by
            by_cases e : i = j
            · subst e
              rw [List.getElem?_set_self hl] at hj
              cases hj
            · rw [List.getElem?_set_ne e] at hj
              exact hj
          exact s.s.apart j k ys zs b (nj j ys q1) (nj k zs q2) q3 q4
      | _ => exact hp.elim
/-! ### loops -/
theorem SX.fresh {K : PySem.W.Frag} {mg : Str → Option Value} {ι Zo Zf : List Addr} {H : Hp} {μ : List Mo} {δ : List Sl} {σ : L2.St} (s : SX K mg T ι Zo Zf H μ δ σ) {p : Addr} {o : HO} (hp : H p = none) : SX K mg T ι Zo Zf (upd H p o) μ δ σ :=
  ⟨s.g.fresh hp, s.s.ext s.g (ext_fresh hp), s.dj⟩
theorem s_for {tg iter : Expr} {body : List Stmt} {ct : Tg} {ci : It} {cb : Ss} (hp : PassesOwn (model X.prog X.w) X.A X.env X.xe) (hc : X.calm = true) (hi : PI X tg iter (tI X.K X.mg T W ci)) (hg : PG X tg (gT X.K X.mg T ct)) (hb : PSs X body (tSs X.K X.mg T W cb))
    (hs : ∀ x, foldedSetIterable iter X.env x = pure x) : PS X (.For tg iter body [] pos) (tS X.K X.mg T W (.for_ ct ci cb)) :=
  PS.imp (ps_for hp hc hi hg hb hs) fun D σ H h => by
    obtain ⟨ι, Zo, Zf, μ, δ, s, hp⟩ := h
    simp only [ex] at hp
    refine ⟨ι, Zo ++ Zf, Zf, μ, δ, s.g, s.s, hp.thenE s fun xs μ1 ι1 J H1 e1 wk s1 h1 => ?_⟩
    obtain ⟨G, Y, wlk, hG, hY⟩ := wk
    have sub : ∀ z ∈ Zf, z ∈ Zo ++ Zf := fun z q => List.mem_append_right _ q
    refine for_it wlk (fun i σ2 H2 => ∃ ι2 Zf2 μ2 δ2, Ext ι1 Zf H1 ι2 H2 ∧ (∀ z ∈ Zf2, z ∈ Zf ∨ H1 z = none) ∧ SX X.K X.mg T ι2 Zo Zf2 H2 μ2 δ2 σ2 ∧ pS X.K X.mg T W (forL ct (exs cb) (xs.drop i) δ2 μ2) ι2 Zo Zf2 H2 D)
      ⟨ι1, Zf, μ1, δ, Ext.refl, fun _ z => .inl z, s1, by simpa using h1⟩ (fun i σ2 H2 _ ⟨ι2, Zf2, μ2, δ2, e2, _⟩ => hG ι2 Zf H2 e2 sub) ?_ ?_
    · rintro i x σ2 H2 H3 hi ⟨ι2, Zf2, μ2, δ2, e2, z2, s2, hp2⟩ y
      obtain ⟨d, hd⟩ : ∃ d, xs[i]? = some d := ⟨xs[i], List.getElem?_eq_getElem hi⟩
      have hz : ∀ z ∈ Zo ++ Zf2, z ∈ Zo ++ Zf ∨ H1 z = none := fun z q => by
        rcases List.mem_append.mp q with q | q
        · exact .inl (List.mem_append_left _ q)
        · rcases z2 z q with q | q
          · exact .inl (List.mem_append_right _ q)
          · exact .inr q
      obtain ⟨hh, rd⟩ := hY i d ι2 Zf (Zo ++ Zf2) H2 H3 x hd e2 sub hz y
      have st3 : Ext ι2 [] H2 ι2 H3 ∧ SX X.K X.mg T ι2 Zo Zf2 H3 μ2 δ2 σ2 := by
        rcases hh with rfl | ⟨p, o, hpn, rfl⟩
        · exact ⟨Ext.refl, s2⟩
        · exact ⟨ext_fresh hpn, s2.fresh hpn⟩
      obtain ⟨e3, s3⟩ := st3
      have ed : xs.drop i = d :: xs.drop (i + 1) := by
        rw [List.drop_eq_getElem_cons hi]
        congr 1
        have := List.getElem?_eq_getElem hi
        rw [hd] at this; exact (Option.some.inj this).symm
      rw [ed] at hp2
      unfold forL at hp2
      have hp3 := pS.mono hp2 (e3.mono (by simp)) (fun _ z => .inl z)
      refine put_nx s3 rd hp3 fun δ3 σ3 s4 hp4 => ?_
      refine ⟨ι2, Zo, Zf2, μ2, δ3, s4, ?_⟩
      have e13 : Ext ι1 Zf H1 ι2 H3 := e2.trans0 e3
      have again : ∀ {δ4 : List Sl} {μ4 : List Mo} {ι4 : List Addr} {Zf4 : List Addr} {σ4 : L2.St} {H4 : Hp}, Ext ι2 Zf2 H3 ι4 H4 → (∀ z ∈ Zf4, z ∈ Zf2 ∨ H3 z = none) → SX X.K X.mg T ι4 Zo Zf4 H4 μ4 δ4 σ4 → pS X.K X.mg T W (forL ct (exs cb) (xs.drop (i + 1)) δ4 μ4) ι2 Zo Zf2 H3 D →
          ∃ ι2 Zf2 μ2 δ2, Ext ι1 Zf H1 ι2 H4 ∧ (∀ z ∈ Zf2, z ∈ Zf ∨ H1 z = none) ∧ SX X.K X.mg T ι2 Zo Zf2 H4 μ2 δ2 σ4 ∧ pS X.K X.mg T W (forL ct (exs cb) (xs.drop (i + 1)) δ2 μ2) ι2 Zo Zf2 H4 D := fun e4 z4 s4 h4 =>
        ⟨_, _, _, _, e13.trans e4 z2, fun z q => by
          rcases z4 z q with q | q
          · exact z2 z q
          · exact .inr (e13.free q), s4, pS.mono h4 e4 z4⟩
      match hq : exs cb δ3 μ2, hp4 with
      | some (.nx, δ4, μ4), hp4 => exact fun ι4 Zf4 σ4 H4 e4 z4 s4 => again e4 z4 s4 hp4
      | some (.ct, δ4, μ4), hp4 => exact fun ι4 Zf4 σ4 H4 e4 z4 s4 => again e4 z4 s4 hp4
      | some (.bk, δ4, μ4), hp4 => exact hp4
      | some (.rt d, δ4, μ4), hp4 => exact hp4
      | some (.ex e, δ4, μ4), hp4 => exact hp4
    · rintro σ2 H2 ⟨ι2, Zf2, μ2, δ2, e2, z2, s2, hp2⟩
      rw [List.drop_length] at hp2
      exact hp2.nx s2
theorem s_while {c : Expr} {body : List Stmt} {cc : E} {cb : Ss} {n : Nat} (hp : PassesOwn (model X.prog X.w) X.A X.env X.xe) (hc : PT X c (tT X.K X.mg T W cc)) (hb : PSs X body (tSs X.K X.mg T W cb)) : PS X (.While c body [] pos) (tS X.K X.mg T W (.while_ n cc cb)) :=
  PS.imp (ps_while hp hc hb) fun D σ H h => by
    obtain ⟨ι, Zo, Zf, μ, δ, s, hp⟩ := h
    simp only [ex] at hp
    refine ⟨fun m σ H => ∃ ι Zo Zf μ δ, SX X.K X.mg T ι Zo Zf H μ δ σ ∧ pS X.K X.mg T W (whileL (ev cc) (exs cb) m δ μ) ι Zo Zf H D, ⟨n, ι, Zo, Zf, μ, δ, s, hp⟩, ?_⟩
    rintro m σ H ⟨ι, Zo, Zf, μ, δ, s, hp⟩
    cases m with
    | zero => exact hp.elim
    | succ m =>
      have hp2 : pS X.K X.mg T W (thenE (evT cc δ μ) δ fun k μ => if k = true then (match exs cb δ μ with
        | some (.nx, δ, μ) => whileL (ev cc) (exs cb) m δ μ
        | some (.ct, δ, μ) => whileL (ev cc) (exs cb) m δ μ
        | some (.bk, δ, μ) => some (.nx, δ, μ)
        | r => r) else some (.nx, δ, μ)) ι Zo Zf H D := by
        unfold whileL at hp
        unfold evT
        cases h : ev cc δ μ with
        | none => rw [h] at hp; exact hp
        | some r =>
          obtain ⟨r, μ1⟩ := r
          cases r with
          | error e => rw [h] at hp; exact hp
          | ok d =>
            rw [h] at hp
            cases d with
            | bl k => cases k <;> exact hp
            | _ => exact hp
      refine ⟨ι, Zo ++ Zf, Zf, μ, δ, s.g, s.s, hp2.thenE s fun k μ1 ι1 k' H1 e1 r1 s1 h1 => ?_⟩
      subst r1
      cases k with
      | false => exact iteF (h1.nx s1)
      | true =>
        refine iteT ⟨fun σ' H' => ∃ ι Zo Zf μ δ, SX X.K X.mg T ι Zo Zf H' μ δ σ' ∧ pS X.K X.mg T W (whileL (ev cc) (exs cb) m δ μ) ι Zo Zf H' D, fun σ' H' q => ⟨m, Nat.lt_succ_self _, q⟩, ι1, Zo, Zf, μ1, δ, s1, ?_⟩
        match hq : exs cb δ μ1, h1 with
        | some (.nx, δ4, μ4), hp4 => exact fun ι4 Zf4 σ4 H4 e4 z4 s4 => ⟨ι4, Zo, Zf4, μ4, δ4, s4, pS.mono hp4 e4 z4⟩
        | some (.ct, δ4, μ4), hp4 => exact fun ι4 Zf4 σ4 H4 e4 z4 s4 => ⟨ι4, Zo, Zf4, μ4, δ4, s4, pS.mono hp4 e4 z4⟩
        | some (.bk, δ4, μ4), hp4 => exact hp4
        | some (.rt d, δ4, μ4), hp4 => exact hp4
        | some (.ex e, δ4, μ4), hp4 => exact hp4
/-! ### raise, stores -/
theorem s_raise {c : Str} {C : Addr} {e : Expr} (hc : X.calm = true) (tk : L2N.Takes X W) (hm : X.mg c = some (.ref C)) (he : L2N.PMk X e (fun _ H Q => Q (.ref C) none H)) : PS X (.Raise (some e) none pos) (tS X.K X.mg T W (.raise c)) :=
  PS.imp (L2N.ps_raise hc tk he) fun D σ H h => by
    obtain ⟨ι, Zo, Zf, μ, δ, s, hp⟩ := h
    simp only [ex] at hp
    exact hp ι Zf σ H Ext.refl (fun _ z => .inl z) s _ _ ⟨⟨C, hm, rfl⟩, rfl⟩
theorem nodup_at : ∀ {N : List Addr} {i j : Nat} {x : Addr}, N.Nodup → N[i]? = some x → N[j]? = some x → i = j
  | [], _, _, _, _, h, _ => by simp at h
  | n :: N, 0, 0, _, _, _, _ => rfl
  | n :: N, 0, j + 1, x, hN, h1, h2 => by
    simp at h1 h2
    subst h1
    exact absurd (List.mem_of_getElem? h2) (List.nodup_cons.mp hN).1
  | n :: N, i + 1, 0, x, hN, h1, h2 => by
    simp at h1 h2
    subst h2
    exact absurd (List.mem_of_getElem? h1) (List.nodup_cons.mp hN).1
  | n :: N, i + 1, j + 1, x, hN, h1, h2 => by
    simp at h1 h2
    rw [nodup_at (List.nodup_cons.mp hN).2 h1 h2]
theorem PSet.or {X : Cx} {t t' : TSet} (h : PSet X t) (h' : PSet X t') : PSet X (fun o i v H Q => t o i v H Q ∨ t' o i v H Q) := by
  intro pins s σ H o i v ov iv u Q I ro ri rv hh
  rcases hh with hh | hh
  · exact h pins s σ H o i v ov iv u Q I ro ri rv hh
  · exact h' pins s σ H o i v ov iv u Q I ro ri rv hh
/-- a changeable list has another item -/
theorem RG.setL {K : PySem.W.Frag} {mg : Str → Option Value} {ι Z : List Addr} {H : Hp} {μ : List Mo} (g : RG K mg T ι Z H μ) {n : Nat} {a : Addr} {xs ys : List Mi.D} {vs ws : List V} (hm : μ[n]? = some (.lst xs)) (ha : ι[n]? = some a) (h : H a = some (.lst vs)) (r : Rps K mg ι Z H ys ws) :
    RG K mg T ι Z (upd H a (.lst ws)) (μ.set n (.lst ys)) ∧ Ext ι [] H ι (upd H a (.lst ws)) := by
  have hin : a ∈ ι := List.mem_of_getElem? ha
  have e : Ext ι [] H ι (upd H a (.lst ws)) := by
    refine ⟨⟨[], by simp, by simp⟩, fun b o q n _ _ => ?_, fun b o q => ?_, fun b us q => ?_⟩
    · rw [upd_ne (fun z => by subst z; exact n hin)]; exact q
    · by_cases z : b = a
      · subst z; exact ⟨_, upd_same⟩
      · exact ⟨o, by rw [upd_ne z]; exact q⟩
    · have : b ≠ a := fun z => by subst z; rw [h] at q; cases q
      rw [upd_ne this]; exact q
  have hnl : n < μ.length := (List.getElem?_eq_some_iff.mp hm).1
  refine ⟨⟨g.nd, by rw [List.length_set]; exact g.len, fun k m hk => ?_, fun z hz => ⟨?_, (g.zl z hz).2⟩, ?_⟩, e⟩
  · by_cases q : n = k
    · subst q
      rw [List.getElem?_set_self hnl] at hk
      cases hk
      exact ⟨a, ha, ws, upd_same, r.ext0 e⟩
    · rw [List.getElem?_set_ne q] at hk
      obtain ⟨b, h1, h2⟩ := g.mem k m hk
      refine ⟨b, h1, h2.ext (Zf := []) e (by simp) (fun _ z => .inl z) (upd_ne fun z => q ?_)⟩
      subst z
      exact nodup_at g.nd ha h1
  · obtain ⟨us, hu⟩ := (g.zl z hz).1
    exact ⟨us, by rw [upd_ne (fun q => by subst q; exact (g.zl z hz).2 hin)]; exact hu⟩
  · intro p hp
    obtain ⟨ps, h1, h2, h3⟩ := g.tabs p hp
    refine ⟨ps, ?_, h2, fun pos cv hc => ?_⟩
    · rw [upd_ne (ne_of h1 h (by simp))]; exact h1
    · obtain ⟨c, e1, e2⟩ := h3 pos cv hc
      exact ⟨c, e1, by rw [upd_ne (ne_of e2 h (by unfold LamX.CodeO; simp))]; exact e2⟩
/-- a changeable dict has another value -/
theorem RG.setD {K : PySem.W.Frag} {mg : Str → Option Value} {ι Z : List Addr} {H : Hp} {μ : List Mo} (g : RG K mg T ι Z H μ) {n : Nat} {a : Addr} {ks : List (Str × Mi.D)} {m : List (Str × Mi.D)} {kv0 : List (Key × V)} {ws : List V} (hm : μ[n]? = some (.dct ks)) (ha : ι[n]? = some a) (h : H a = some (.dK kv0)) (r : Rps K mg ι Z H (m.map (·.2)) ws) :
    RG K mg T ι Z (upd H a (.dK ((m.map kS).zip ws))) (μ.set n (.dct m)) ∧ Ext ι [] H ι (upd H a (.dK ((m.map kS).zip ws))) := by
  have hin : a ∈ ι := List.mem_of_getElem? ha
  have e : Ext ι [] H ι (upd H a (.dK ((m.map kS).zip ws))) := by
    refine ⟨⟨[], by simp, by simp⟩, fun b o q n _ _ => ?_, fun b o q => ?_, fun b us q => ?_⟩
    · rw [upd_ne (fun z => by subst z; exact n hin)]; exact q
    · by_cases z : b = a
      · subst z; exact ⟨_, upd_same⟩
      · exact ⟨o, by rw [upd_ne z]; exact q⟩
    · have : b ≠ a := fun z => by subst z; rw [h] at q; cases q
      rw [upd_ne this]; exact q
  have hnl : n < μ.length := (List.getElem?_eq_some_iff.mp hm).1
  refine ⟨⟨g.nd, by rw [List.length_set]; exact g.len, fun k m hk => ?_, fun z hz => ⟨?_, (g.zl z hz).2⟩, ?_⟩, e⟩
  · by_cases q : n = k
    · subst q
      rw [List.getElem?_set_self hnl] at hk
      cases hk
      exact ⟨a, ha, ws, upd_same, r.ext0 e⟩
    · rw [List.getElem?_set_ne q] at hk
      obtain ⟨b, h1, h2⟩ := g.mem k m hk
      refine ⟨b, h1, h2.ext (Zf := []) e (by simp) (fun _ z => .inl z) (upd_ne fun z => q ?_)⟩
      subst z
      exact nodup_at g.nd ha h1
  · obtain ⟨us, hu⟩ := (g.zl z hz).1
    exact ⟨us, by rw [upd_ne (fun q => by subst q; exact (g.zl z hz).2 hin)]; exact hu⟩
  · intro p hp
    obtain ⟨ps, h1, h2, h3⟩ := g.tabs p hp
    refine ⟨ps, ?_, h2, fun pos cv hc => ?_⟩
    · rw [upd_ne (ne_of h1 h (by simp))]; exact h1
    · obtain ⟨c, e1, e2⟩ := h3 pos cv hc
      exact ⟨c, e1, by rw [upd_ne (ne_of e2 h (by unfold LamX.CodeO; simp))]; exact e2⟩
theorem put_rel {K : PySem.W.Frag} {mg : Str → Option Value} {ι Z : List Addr} {H : Hp} {z : Str} {d : Mi.D} {v : V} (hd : Rp K mg ι Z H d v) : ∀ {kvs : List (Str × Mi.D)} {vs : List V}, Rps K mg ι Z H (kvs.map (·.2)) vs →
    ∃ ws, ((kvs.map kS).zip vs).map (fun kv => if kv.1 = (Sum.inr z : Key) then (kv.1, v) else kv) = ((putS kvs z d).map kS).zip ws ∧ Rps K mg ι Z H ((putS kvs z d).map (·.2)) ws
  | [], vs, h => ⟨[], rfl, rfl⟩
  | (k, x) :: kvs, vs, h => by
    obtain ⟨u, vs', rfl, h1, h2⟩ := h
    obtain ⟨ws, e1, e2⟩ := put_rel (z := z) hd h2
    by_cases hk : k = z
    · subst hk
      refine ⟨v :: ws, ?_, ?_⟩
      · simp only [List.map_cons, List.zip_cons_cons, putS, if_true]
        rw [e1]; rfl
      · simp only [putS, List.map_cons, if_true]
        exact ⟨v, ws, rfl, hd, e2⟩
    · have hk2 : ¬ ((Sum.inr k : Key) = Sum.inr z) := fun q => by cases q; exact hk rfl
      refine ⟨u :: ws, ?_, ?_⟩
      · simp only [List.map_cons, List.zip_cons_cons, putS, if_neg hk, if_neg hk2]
        rw [e1]; rfl
      · simp only [putS, List.map_cons, if_neg hk]
        exact ⟨u, ws, rfl, h1, e2⟩
theorem any_key {z : Str} : ∀ {kvs : List (Str × Mi.D)} {vs : List V}, kvs.length = vs.length → (kvs.lookup z).isSome = true → (((kvs.map kS).zip vs).any fun kv => decide (kv.1 = (Sum.inr z : Key))) = true
  | [], _, _, h => by cases h
  | (k, x) :: kvs, [], hl, _ => by simp at hl
  | (k, x) :: kvs, v :: vs, hl, h => by
    rw [List.map_cons, List.zip_cons_cons, List.any_cons]
    have h : (match z == k with | true => some x | false => kvs.lookup z).isSome = true := h
    cases q : (z == k) with
    | true =>
      have := beq_iff_eq.mp q
      subst this
      simp
    | false =>
      rw [q] at h
      rw [any_key (by simpa using hl) h, Bool.or_true]
theorem heap_of (oc : Obj) (hf : ∀ h : Heap, (h.push oc).get? h.objs.size = some oc) : ∀ n : Nat, ∃ h : Heap, h.objs.size = n ∧ ∀ b o, h.get? b = some o → o = oc
  | 0 => ⟨{}, rfl, fun b o e => by simp [Heap.get?] at e⟩
  | n + 1 => by
    obtain ⟨h, h1, h2⟩ := heap_of oc hf n
    refine ⟨h.push oc, by rw [Heap.size_push, h1], fun b o e => ?_⟩
    rcases Heap.get?_push_cases e with ⟨_, e⟩ | e
    · exact e
    · exact h2 b o e
/-- such a dict is no code object -/
theorem nd_code {w : World} {a c : Addr} {xs : List (NestedKey × Addr × V)} {q : Str} : NDo w a xs ≠ LamX.CodeO c q := by
  intro z
  injection z with z
  have oc : ∃ oc : Obj, oc = { cls := .type "int", data := .fields #[.none, .str q 0] } := ⟨_, rfl⟩
  obtain ⟨oc, hoc⟩ := oc
  obtain ⟨h, h1, h2⟩ := heap_of oc (fun h => Heap.get?_push_size h (by rw [hoc]; rfl)) c
  have zz := congrFun z (h.push oc)
  have right : ∃ (oc : Obj) (vs : Array Value) (t : Tok), (h.push oc).get? c = some oc ∧ oc.data = .fields vs ∧ vs[1]? = some (.str q t) := ⟨oc, #[.none, .str q 0], 0, by rw [← h1]; exact Heap.get?_push_size h (by rw [hoc]; rfl), by rw [hoc], rfl⟩
  have left : ∃ (o : Obj) (es : Array DictEntry) (ep : Nat), (h.push oc).get? a = some o ∧ o.ExactDict ∧ o.data = .dict es ep ∧ Paired (NdE w) xs es.toList := by
    have : (∃ (oc' : Obj) (vs : Array Value) (t : Tok), (h.push oc).get? c = some oc' ∧ oc'.data = .fields vs ∧ vs[1]? = some (.str q t)) := ⟨oc, #[.none, .str q 0], 0, by rw [← h1]; exact Heap.get?_push_size h (by rw [hoc]; rfl), by rw [hoc], rfl⟩
    exact zz.mpr this
  obtain ⟨o, es, ep, ho, _, hd, _⟩ := left
  have e : o = oc := by
    rcases Heap.get?_push_cases ho with ⟨_, e⟩ | e
    · exact e
    · exact h2 _ _ e
  rw [e, hoc] at hd
  cases hd
/-- a changeable dict with keys of any depth has another value -/
theorem RG.setN {K : PySem.W.Frag} {mg : Str → Option Value} {ι Z : List Addr} {H : Hp} {μ : List Mo} (g : RG K mg T ι Z H μ) {n : Nat} {a : Addr} {ks m : List (NestedKey × Mi.D)} {x0 xs : List (NestedKey × Addr × V)} (hm : μ[n]? = some (.dcn ks)) (ha : ι[n]? = some a) (h : H a = some (NDo T.w a x0)) (hs : (a == sysModules) = false) (hn : (m.map (·.1)).Nodup) (hk : Paired (NdK K H) m xs) (r : Rps K mg ι Z H (m.map (·.2)) (xs.map (·.2.2))) :
    RG K mg T ι Z (upd H a (NDo T.w a xs)) (μ.set n (.dcn m)) ∧ Ext ι [] H ι (upd H a (NDo T.w a xs)) := by
  have hin : a ∈ ι := List.mem_of_getElem? ha
  have tups : ∀ b us, H b = some (.tup us) → upd H a (NDo T.w a xs) b = some (.tup us) := fun b us q => by
    have : b ≠ a := fun z => by subst z; rw [h] at q; cases q
    rw [upd_ne this]; exact q
  have e : Ext ι [] H ι (upd H a (NDo T.w a xs)) := by
    refine ⟨⟨[], by simp, by simp⟩, fun b o q n _ _ => ?_, fun b o q => ?_, tups⟩
    · rw [upd_ne (fun z => by subst z; exact n hin)]; exact q
    · by_cases z : b = a
      · subst z; exact ⟨_, upd_same⟩
      · exact ⟨o, by rw [upd_ne z]; exact q⟩
  have hnl : n < μ.length := (List.getElem?_eq_some_iff.mp hm).1
  refine ⟨⟨g.nd, by rw [List.length_set]; exact g.len, fun k m hk => ?_, fun z hz => ⟨?_, (g.zl z hz).2⟩, ?_⟩, e⟩
  · by_cases q : n = k
    · subst q
      rw [List.getElem?_set_self hnl] at hk
      cases hk
      exact ⟨a, ha, xs, upd_same, hs, hn, NdK.mono tups ‹_›, r.ext0 e⟩
    · rw [List.getElem?_set_ne q] at hk
      obtain ⟨b, h1, h2⟩ := g.mem k m hk
      refine ⟨b, h1, h2.ext (Zf := []) e (by simp) (fun _ z => .inl z) (upd_ne fun z => q ?_)⟩
      subst z
      exact nodup_at g.nd ha h1
  · obtain ⟨us, hu⟩ := (g.zl z hz).1
    exact ⟨us, by rw [upd_ne (fun q => by subst q; exact (g.zl z hz).2 hin)]; exact hu⟩
  · intro p hp
    obtain ⟨ps, h1, h2, h3⟩ := g.tabs p hp
    refine ⟨ps, ?_, h2, fun pos cv hc => ?_⟩
    · rw [upd_ne (ne_of h1 h (by simp [NDo]))]; exact h1
    · obtain ⟨c, e1, e2⟩ := h3 pos cv hc
      exact ⟨c, e1, by rw [upd_ne (ne_of e2 h (fun z => nd_code z.symm))]; exact e2⟩
/-- d[k] = v, keys of any depth -/
def rSetN (X : Cx) (T : TW) : V → V → V → Hp → (Hp → Prop) → Prop := fun o i v H Q => ∃ ι Z μ n kvs a d x k, RG X.K X.mg T ι Z H μ ∧ o = .ref a ∧ μ[n]? = some (.dcn kvs) ∧ ι[n]? = some a ∧ nkT d = some k ∧ Rp X.K X.mg ι Z H d i ∧ Rp X.K X.mg ι Z H x v ∧ kvs.length ≤ sizeLine ∧
  ∀ H', Ext ι [] H ι H' → RG X.K X.mg T ι Z H' (μ.set n (.dcn (putN kvs k x))) → Q H'
theorem set_nd (hw : T.w = X.w) (hu : X.A.units + 9 < cLine) : PSet X (rSetN X T) := by
  intro pins s σ H o i v ov iv u Q I ro ri rv h
  obtain ⟨ι, Z, μ, n, kvs, a, d, x, k, g, rfl, hm, ha, hk, rd, rx, hz, q⟩ := h
  obtain rfl : ov = Value.ref a := ro
  refine nd_setItem hw hu I g hm ha hk rd ri rx rv hz fun xs' s' I' p r => ?_
  obtain ⟨x0, h1, h2, h3, h4, h5⟩ := nd_mem hw g hm ha
  obtain ⟨g4, e4⟩ := g.setN (m := putN kvs k x) (xs := xs') hm ha (by rw [hw]; exact h1) h2 (putN_nodup h3) p r
  rw [hw] at g4 e4
  exact ⟨_, I', q _ e4 g4⟩
theorem s_put {o i : Expr} {co ci : E} {p : Pos} (he : PE X e (tE X.K X.mg T W ce)) (ho : PE X o (tE X.K X.mg T W co)) (hi : PE X i (tE X.K X.mg T W ci)) (hs : swapsWithSole [.Subscript o i p] e pos.line X.env = pure false) (hw : swappedStores [.Subscript o i p] e X.env = pure none)
    (h1 : (assignEach [.Subscript o i p] X.env).map (·.2) = [assign (.Subscript o i p) X.env]) (ha : ∀ v, assign (.Subscript o i p) X.env v = (do
      let ov ← holding [v] (eval o X.env)
      let iv ← holding [v, ov] (eval i X.env)
      standAt p
      holding [v, ov, iv] (setItem ov iv v)
      release [v, ov, iv] [])) (hTw : T.w = X.w) (hu : X.A.units + 9 < cLine) : PS X (.Assign [.Subscript o i p] e pos) (tS X.K X.mg T W (.put co ci ce)) :=
  PS.imp (ps_asg he (pg_sub ho hi (PSet.or (PSet.or set_list (set_dict (by omega))) (set_nd (T := T) hTw hu)) ha) hs hw h1) fun D σ H h => by
    obtain ⟨ι, Zo, Zf, μ, δ, s, hp⟩ := h
    simp only [ex] at hp
    refine ⟨ι, Zo ++ Zf, Zf, μ, δ, s.g, s.s, hp.thenE s fun v μ1 ι1 v' H1 e1 r1 s1 h1 => ?_⟩
    refine ⟨ι1, Zo ++ Zf, Zf, μ1, δ, s1.g, s1.s, h1.thenE s1 fun x μ2 ι2 x' H2 e2 r2 s2 h2 => ?_⟩
    refine ⟨ι2, Zo ++ Zf, Zf, μ2, δ, s2.g, s2.s, h2.thenE s2 fun k μ3 ι3 k' H3 e3 r3 s3 h3 => ?_⟩
    unfold putD at h3
    split at h3
    · rename_i n
      split at h3
      · rename_i xs k hm
        cases hx : L2.ixN xs.length k with
        | none => rw [hx] at h3; exact h3.elim
        | some j =>
          rw [hx] at h3
          simp only [Option.map_some, Option.bind_some] at h3
          obtain ⟨a, rfl, ha⟩ := r2.ext0 e3
          obtain ⟨b, hb, vs, hv, rv⟩ := s3.g.mem n _ hm
          rw [ha] at hb; cases hb
          obtain ⟨g4, e4⟩ := s3.g.setL (ys := xs.set j v) (ws := vs.set j v') hm ha hv (rv.set j ((r1.ext0 e2).ext0 e3))
          refine .inl <| .inl ⟨a, vs, k, j, rfl, r3, hv, by rw [← rv.length]; exact hx, ?_⟩
          exact (h3.mono (e4.mono (by simp)) fun _ z => .inl z).nx ⟨g4, s3.s.ext s3.g e4, s3.dj⟩
      · rename_i kvs z hm
        split at h3
        · rename_i hc
          simp only [Bool.and_eq_true, decide_eq_true_eq] at hc
          simp only [Option.bind_some] at h3
          obtain ⟨a, rfl, ha⟩ := r2.ext0 e3
          obtain ⟨b, hb, vs, hv, rv⟩ := s3.g.mem n _ hm
          rw [ha] at hb; cases hb
          obtain ⟨ws, w1, w2⟩ := put_rel (z := z) ((r1.ext0 e2).ext0 e3) rv
          obtain ⟨g4, e4⟩ := s3.g.setD (m := putS kvs z v) (ws := ws) hm ha hv w2
          have hk' : k' = V.str z := r3
          subst hk'
          refine .inl <| .inr ⟨a, upd H3 a (.dK (((putS kvs z v).map kS).zip ws)), rfl, ?_, ?_⟩
          · have hl : kvs.length = vs.length := by have := rv.length; simpa using this
            have hput : L2.putK ((kvs.map kS).zip vs) (Sum.inr z : Key) v' = ((putS kvs z v).map kS).zip ws := by
              unfold L2.putK
              rw [any_key hl hc.2, if_pos rfl]
              exact w1
            have := L2.DPut.k (k := (Sum.inr z : Key)) (v := v') hv (by rw [List.length_zip, List.length_map, ← hl, Nat.min_self, sizeLine_eq]; omega)
            rw [hput] at this
            exact this
          · exact (h3.mono (e4.mono (by simp)) fun _ z => .inl z).nx ⟨g4, s3.s.ext s3.g e4, s3.dj⟩
        · exact h3.elim
      · rename_i kvs ds hm
        cases hk : nkT (.tup ds) with
        | none => rw [hk] at h3; exact h3.elim
        | some k =>
          rw [hk] at h3
          simp only [Option.bind_some] at h3
          split at h3
          · rename_i hz
            simp only [Option.bind_some] at h3
            obtain ⟨a, rfl, ha⟩ := r2.ext0 e3
            refine .inr ⟨ι3, Zo ++ Zf, μ3, n, kvs, a, .tup ds, v, k, s3.g, rfl, hm, ha, hk, r3, (r1.ext0 e2).ext0 e3, by rw [sizeLine_eq]; omega, fun H' e4 g4 => ?_⟩
            exact (h3.mono (e4.mono (by simp)) fun _ z => .inl z).nx ⟨g4, s3.s.ext s3.g e4, s3.dj⟩
          · exact h3.elim
      · exact h3.elim
    · exact h3.elim
/-- name = [..], a list that this name alone holds -/
theorem SX.newLin {K : PySem.W.Frag} {mg : Str → Option Value} {ι Zo Zf : List Addr} {H : Hp} {μ : List Mo} {δ : List Sl} {σ : L2.St} (s : SX K mg T ι Zo Zf H μ δ σ) {p : Addr} {i : Nat} {xs : List Mi.D} {vs : List V} (hp : H p = none) (r : Rps K mg ι (Zo ++ Zf) H xs vs) :
    SX K mg T ι Zo (p :: Zf) (upd H p (.lst vs)) μ (δ.set i (.lin xs)) (σ.set i (some (.ref p))) := by
  have e : Ext ι [] H ι (upd H p (.lst vs)) := ext_fresh hp
  have hz : ∀ z ∈ Zo ++ p :: Zf, z ∈ Zo ++ Zf ∨ H z = none := fun z q => by
    rcases List.mem_append.mp q with q | q
    · exact .inl (List.mem_append_left _ q)
    · rcases List.mem_cons.mp q with q | q
      · rw [q]; exact .inr hp
      · exact .inl (List.mem_append_right _ q)
  have nz := (s.g.notin hp)
  refine ⟨?_, ?_, fun z q => ?_⟩
  · have g1 := s.g.consZ (vs := vs) hp
    exact g1.weakZ fun z q => by
      rcases List.mem_append.mp q with q | q
      · exact List.mem_cons_of_mem _ (List.mem_append_left _ q)
      · rcases List.mem_cons.mp q with q | q
        · rw [q]; exact List.mem_cons_self ..
        · exact List.mem_cons_of_mem _ (List.mem_append_right _ q)
  · have olds : ∀ (j : Nat) (y : Sl), δ[j]? = some y → SlOk K mg ι (Zo ++ p :: Zf) (p :: Zf) (upd H p (.lst vs)) y σ[j]? := fun j y hy => by
      have h := s.s.ok j y hy
      cases y with
      | un => trivial
      | d x => obtain ⟨v, h1, h2⟩ := h; exact ⟨v, h1, Rp.ext e (by simp) hz x v h2⟩
      | lin ys =>
        obtain ⟨a, ws, h1, h2, h3, h4⟩ := h
        exact ⟨a, ws, h1, List.mem_cons_of_mem _ h2, by rw [upd_ne (ne_of_none h3 hp)]; exact h3, Rps.ext e (by simp) hz _ _ h4⟩
    refine ⟨by simp [s.s.len], fun j y hy => ?_, fun j k ys zs a h1 h2 h3 h4 => ?_, fun z q => List.mem_append_right _ q⟩
    · by_cases q : i = j
      · subst q
        have hl : i < δ.length := by
          have := (List.getElem?_eq_some_iff.mp hy).1
          simpa using this
        rw [List.getElem?_set_self hl] at hy
        cases hy
        exact ⟨p, vs, by rw [List.getElem?_set_self (by rw [← s.s.len]; exact hl)], List.mem_cons_self .., upd_same, Rps.ext e (by simp) hz _ _ r⟩
      · rw [List.getElem?_set_ne q] at hy ⊢
        exact olds j y hy
    · have notp : ∀ (j : Nat) (ys : List Mi.D), j ≠ i → (δ.set i (Sl.lin xs))[j]? = some (Sl.lin ys) → (σ.set i (some (V.ref p)))[j]? ≠ some (some (V.ref p)) := fun j ys hj hy q => by
        rw [List.getElem?_set_ne (Ne.symm hj)] at hy q
        obtain ⟨a, ws, e1, e2, e3, _⟩ := s.s.ok j _ hy
        rw [q] at e1; cases e1
        rw [hp] at e3; cases e3
      by_cases q1 : j = i
      · by_cases q2 : k = i
        · rw [q1, q2]
        · subst q1
          have hl : j < σ.length := by
            have := (List.getElem?_eq_some_iff.mp h3).1
            simpa using this
          rw [List.getElem?_set_self hl] at h3
          cases h3
          exact absurd h4 (notp k zs q2 h2)
      · by_cases q2 : k = i
        · subst q2
          have hl : k < σ.length := by
            have := (List.getElem?_eq_some_iff.mp h4).1
            simpa using this
          rw [List.getElem?_set_self hl] at h4
          cases h4
          exact absurd h3 (notp j ys q1 h1)
        · rw [List.getElem?_set_ne (Ne.symm q1)] at h1 h3
          rw [List.getElem?_set_ne (Ne.symm q2)] at h2 h4
          exact s.s.apart j k ys zs a h1 h2 h3 h4
  · rcases List.mem_cons.mp q with q | q
    · rw [q]; exact fun z => nz.2 (List.mem_append_left _ z)
    · exact s.dj z q
theorem s_lin {i : Nat} {x : Str} {es : List Expr} {ces : Es} {p p2 : Pos} (hN : X.N.Nodup) (hi : X.N[i]? = some x) (hx : Loc X.env.scope x) (hf : X.fn x = true ∨ X.env.scope.names.lookup x = some .local) (ha : PA X es (tEs X.K X.mg T W ces)) :
    PS X (.Assign [.Name x p] (.List es p2) pos) (tS X.K X.mg T W (.lin i ces)) :=
  PS.imp (ps_set hN hi hx (pe_lst ha) rfl hf) fun D σ H h => by
    obtain ⟨ι, Zo, Zf, μ, δ, s, hp⟩ := h
    simp only [ex] at hp
    refine ⟨ι, Zo ++ Zf, Zf, μ, δ, s.g, s.s, hp.thenE s fun xs μ1 ι1 vs H1 e1 r1 s1 h1 => ?_⟩
    split at h1
    · rename_i hz
      refine ⟨by rw [← r1.length]; exact hz, fun q hq => ?_⟩
      refine (h1.mono (ι1 := ι1) (Zf1 := q :: Zf) (ext_fresh (o := .lst vs) hq) fun z hz => ?_).nx (s1.newLin hq r1)
      rcases List.mem_cons.mp hz with e | e
      · rw [e]; exact .inr hq
      · exact .inl e
    · exact h1.elim
/-- name.append(e), of such a list -/
theorem s_app {i : Nat} {x : Str} {p p2 p3 : Pos} (hN : X.N[i]? = some x) (hv : Vis X.env.scope x) (hd : (x == ("__debug__" : Str)) = false) (hcd : (x == ("__classdict__" : Str)) = false) (he : PE X e (tE X.K X.mg T W ce)) (hst : starEach [e] X.env = (false, eval e X.env) :: starEach [] X.env)
    (hline : (p2.endLine == p3.line) = true) : PS X (.Expr (.Call (.Attribute (.Name x p) "append" p2) [e] [] p3) pos) (tS X.K X.mg T W (.app i ce)) :=
  PS.imp (ps_expr (pe_bm PySem.F.plainAttrs_list PySem.F.slot_list_append PySem.F.type_list_append mt_append (pe_var hN hv hd hcd) (pa_cons he pa_nil hst) rfl (by rw [hst]; rfl) hline hst rfl) rfl) fun D σ H h => by
    obtain ⟨ι, Zo, Zf, μ, δ, s, hp⟩ := h
    simp only [ex] at hp
    cases hi : δ[i]? with
    | none => rw [hi] at hp; exact hp.elim
    | some y =>
      rw [hi] at hp
      cases y with
      | lin xs =>
        obtain ⟨a, vs, h1, h2, h3, h4⟩ := s.s.ok i _ hi
        refine ⟨.ref a, h1, .inl ⟨rfl, _, SqL.of h3⟩, ι, Zo ++ Zf, Zf, μ, δ, s.g, s.s, hp.thenE s fun x μ1 ι1 v H1 e1 r1 s1 h5 => ?_⟩
        have ha : a ∈ Zo ++ Zf := List.mem_append_right _ h2
        have h6 : H1 a = some (.lst vs) := e1.keep a _ h3 (s.g.zl a ha).2 (by simp) (fun _ z => by cases z)
        split at h5
        · rename_i hz
          have eU := ext_updZ (ι := ι1) (ws := vs ++ [v]) h6
          have sub : ∀ z ∈ [a], z ∈ Zo ++ Zf := fun z q => by rw [List.mem_singleton.mp q]; exact ha
          refine ⟨a, vs, v, rfl, rfl, h6, by rw [← h4.length]; exact hz, ?_⟩
          refine (h5.mono (ι1 := ι1) (Zf1 := Zf) (eU.mono fun z q => by rw [List.mem_singleton.mp q]; exact h2) fun _ z => .inl z).nx ⟨s1.g.updZ ha h6, ?_, s1.dj⟩
          have hl : i < δ.length := (List.getElem?_eq_some_iff.mp hi).1
          refine ⟨by rw [List.length_set]; exact s1.s.len, fun j y hy => ?_, fun j k ys zs b q1 q2 q3 q4 => ?_, s1.s.sub⟩
          · by_cases q : i = j
            · subst q
              rw [List.getElem?_set_self hl] at hy
              cases hy
              exact ⟨a, vs ++ [v], h1, h2, upd_same, Rps.append (Rps.ext eU sub (fun _ z => .inl z) _ _ (h4.ext0 e1)) ⟨v, [], rfl, Rp.ext eU sub (fun _ z => .inl z) _ _ r1, rfl⟩⟩
            · rw [List.getElem?_set_ne q] at hy
              have hj := s1.s.ok j y hy
              cases y with
              | un => trivial
              | d x => obtain ⟨w, e2, e3⟩ := hj; exact ⟨w, e2, Rp.ext eU sub (fun _ z => .inl z) _ _ e3⟩
              | lin ys =>
                obtain ⟨b, ws, e2, e3, e4, e5⟩ := hj
                have hne : b ≠ a := fun z => by
                  subst z
                  exact q (s1.s.apart i j xs ys b hi hy h1 e2)
                exact ⟨b, ws, e2, e3, by rw [upd_ne hne]; exact e4, Rps.ext eU sub (fun _ z => .inl z) _ _ e5⟩
          · have nj : ∀ (j : Nat) (ys : List Mi.D), (δ.set i (Sl.lin (xs ++ [x])))[j]? = some (Sl.lin ys) → ∃ ys, δ[j]? = some (Sl.lin ys) := fun j ys hj => by
              by_cases q : i = j
              · subst q; exact ⟨xs, hi⟩
              · rw [List.getElem?_set_ne q] at hj
                exact ⟨ys, hj⟩
            obtain ⟨ys', q1⟩ := nj j ys q1
            obtain ⟨zs', q2⟩ := nj k zs q2
            exact s1.s.apart j k ys' zs' b q1 q2 q3 q4
        · exact h5.elim
      | _ => exact hp.elim
/-! ### a def -/
theorem ok_run {P : Program} {w : World} {K : PySem.W.Frag} {mg : Str → Option Value} {base : Heap} {x qual : Str} {params : Arguments} {body : List Stmt} {scope : Scope} {f : Addr} {fd : FuncData} {N ps : List Str} {k : Nat} {cb : Ss} {F : Sem}
    (FD : FunD K x qual params body scope [] [] f fd) (S : FnScope N ps scope) (hF : F = run ps.length N.length cb)
    (hb : ∀ (X : Cx) (W : WX), X.prog = P → X.w = w → X.K = K → X.mg = mg → X.base = base → X.N = N → X.env.scope = scope → X.calm = true → Room k X.A → L2N.Takes X W → PassesOwn (model X.prog X.w) X.A X.env X.xe → (∀ y, X.fn y = true) → X.env.code = fd.code → X.env.qual = qual ++ ".<locals>." → PSs X body (tSs K mg T W cb)) :
    FnOk P w K mg base (L2N.CX P w) (k + 1) f fd ps (spF K mg T ps.length F) := by
  subst hF
  obtain ⟨oc, od, dV, kV, doc, pm, an, cdv, ct, osl, rfl, lk, hcd, _, _⟩ := FD.ex
  refine fn_of lk hcd S (fun vs H Q E h => h.1) fun A outer s H vs Q E hr h => ?_
  obtain ⟨hl, ι, Z, μ, ds, g, r, hp⟩ := h
  refine ⟨tSs K mg T (fun cls d _ H => E cls d H) cb, hb _ _ rfl rfl rfl rfl rfl rfl rfl rfl hr (L2N.takes_of rfl rfl rfl rfl) (L2.passes_of rfl) (fun _ => rfl) rfl rfl, ?_⟩
  refine ⟨ι, Z, [], μ, ds.map .d ++ List.replicate (N.length - ps.length) .un, ⟨by simpa using g, ?_, by simp⟩, ?_⟩
  · have hlen : ds.length = vs.length := r.length
    have slots : ∀ (i : Nat) (y : Sl), (ds.map Sl.d ++ List.replicate (N.length - ps.length) Sl.un)[i]? = some y → y = .un ∨ ∃ d v, y = .d d ∧ (L2.start N vs)[i]? = some (some v) ∧ Rp K mg ι (Z ++ []) H d v := fun i y hy => by
      by_cases hi : i < ds.length
      · rw [List.getElem?_append_left (by simpa using hi), List.getElem?_map] at hy
        cases hd : ds[i]? with
        | none => rw [hd] at hy; cases hy
        | some d =>
          rw [hd] at hy
          cases hy
          obtain ⟨v, h1, h2⟩ := r.get hd
          refine .inr ⟨d, v, rfl, ?_, by simpa using h2⟩
          unfold L2.start
          rw [List.getElem?_append_left (by rw [List.length_map, ← hlen]; exact hi), List.getElem?_map, h1]
          rfl
      · rw [List.getElem?_append_right (by simpa using hi)] at hy
        rw [List.getElem?_replicate] at hy
        split at hy <;> cases hy
        exact .inl rfl
    refine ⟨?_, fun i y hy => ?_, fun i j xs ys a h1 => ?_, by simp⟩
    · unfold L2.start
      simp [hlen, hl]
    · rcases slots i y hy with rfl | ⟨d, v, rfl, h1, h2⟩
      · trivial
      · exact ⟨v, h1, h2⟩
    · rcases slots i _ h1 with e | ⟨_, _, e, _⟩ <;> cases e
  · unfold run at hp
    rw [if_pos (by rw [r.length]; exact hl)] at hp
    match hq : exs cb (ds.map Sl.d ++ List.replicate (N.length - ps.length) Sl.un) μ, hp with
    | some (.nx, δ1, μ1), hp =>
      intro ι1 Zf1 σ1 H1 e1 z1 s1
      refine hp ι1 _ H1 (e1.mono (by simp)) (s1.g.weakZ fun z q => List.mem_append_left _ q) rfl
    | some (.rt d, δ1, μ1), hp =>
      intro ι1 Zf1 σ1 H1 e1 z1 s1 v r1
      exact hp ι1 _ H1 (e1.mono (by simp)) (s1.g.weakZ fun z q => List.mem_append_left _ q) (r1.weak fun z q => List.mem_append_left _ q)
    | some (.ex e, δ1, μ1), hp =>
      intro ι1 Zf1 σ1 H1 e1 z1 s1 cv dx xr
      exact hp ι1 H1 cv dx (e1.mono (by simp)) (s1.g.weakZ fun z q => List.mem_append_left _ q) xr
end
end Mi
set_option Elab.async false
set_option linter.all false
set_option maxRecDepth 100000
set_option maxHeartbeats 4000000
/-! Mua: calls of defs that a name holds; lists that one name alone holds, made by comprehensions, with items put; x, y = e, []. -/
namespace Mi
open PySem PySem.Spec PyProof.Rows L2 RZ
/-! ### a def that a name holds -/
def tDyn (W : WX) (i : Nat) (S : Addr → Sp → Prop) (t : TA) : TE := fun σ H Q => ∃ f sp, σ[i]? = some (some (.ref f)) ∧ S f sp ∧ t σ H fun vs H1 => sp vs H1 Q (WE W σ)
section
variable {X : Cx} {T : TW} {W : WX} {pos : Pos}
theorem pe_dyn {k i : Nat} {x : Str} {p : Pos} {e : Expr} {es : List Expr} {t : TA} {S : Addr → Sp → Prop} (A : ∀ f sp, S f sp → ∃ fd ps, FnOk X.prog X.w X.K X.mg X.base (L2N.CX X.prog X.w) k f fd ps sp ∧ PySem.W.keepIn X.K (.ref f) = true ∧ Binds X.K fd ps []) (hr : Room k X.A) (hN : X.N[i]? = some x) (hv : Vis X.env.scope x) (tk : L2N.Takes X W) (ha : PA X (e :: es) t)
    (hdb : (x == ("__debug__" : Str)) = false) (hcd : (x == ("__classdict__" : Str)) = false) (he : starEach (e :: es) X.env = (false, eval e X.env) :: starEach es X.env) (hpl : (backTo pos (starEach es X.env)).any (·.1) = false) : PE X (.Call (.Name x p) (e :: es) [] pos) (tDyn W i S t) := by
  refine ⟨fun pins s σ H Q I h => ?_⟩
  obtain ⟨f, sp, hs, hS, ht⟩ := h
  obtain ⟨fd, ps, F, hk, hb⟩ := A f sp hS
  refine wpAny_Call_Name_kw (thn ((pe_var (pos := p) hN hv hdb hcd).run pins s σ H (fun v H1 => v = .ref f ∧ H1 = H) I ⟨.ref f, hs, rfl, rfl⟩) fun u s1 ⟨v, H1, I1, r1, q1⟩ => ?_)
  obtain ⟨rfl, rfl⟩ := q1
  cases r1
  refine PySem.W.callWith_K (h₀ := X.base) I.ok.mod.kin hk (thn (ha.run pos pins s1 σ _ _ I1 ht) fun us s2 ⟨vs, H2, I2, r, q⟩ => ⟨I2.kIn, ?_⟩) he hpl
  exact run_fnS F hr hb (L2N.passAt tk σ) I2 r q
theorem m_dyn {x : Str} {e : Expr} {es : List Expr} {ces : Es} {k i : Nat} {p : Pos} {tb : List (Str × Nat × Sem)} (A : ∀ z a F, tb.lookup z = some (a, F) → ∃ f fd ps, X.mg z = some (.ref f) ∧ PySem.W.keepIn X.K (.ref f) = true ∧ Binds X.K fd ps [] ∧ FnOk X.prog X.w X.K X.mg X.base (L2N.CX X.prog X.w) k f fd ps (spF X.K X.mg T a F)) (hr : Room k X.A)
    (hN : X.N[i]? = some x) (hv : Vis X.env.scope x) (tk : L2N.Takes X W) (ha : PA X (e :: es) (tEs X.K X.mg T W ces)) (hdb : (x == ("__debug__" : Str)) = false) (hcd : (x == ("__classdict__" : Str)) = false)
    (he : starEach (e :: es) X.env = (false, eval e X.env) :: starEach es X.env) (hpl : (backTo pos (starEach es X.env)).any (·.1) = false) : PE X (.Call (.Name x p) (e :: es) [] pos) (tE X.K X.mg T W (.dyn i tb ces)) :=
  PE.imp (pe_dyn (k := k) (S := fun f sp => ∃ z a F, tb.lookup z = some (a, F) ∧ X.mg z = some (.ref f) ∧ sp = spF X.K X.mg T a F) (fun f sp ⟨z, a, F, h1, h2, h3⟩ => by
    obtain ⟨f', fd, ps, g1, g2, g3, g4⟩ := A z a F h1
    rw [g1] at h2
    cases h2
    subst h3
    exact ⟨fd, ps, g4, g2, g3⟩) hr hN hv tk ha hdb hcd he hpl) fun σ H Q h => by
    obtain ⟨ι, Z, Zf, μ, δ, g, sr, hp⟩ := h
    simp only [ev] at hp
    split at hp
    · rename_i z hi
      obtain ⟨v, hv1, f, hf1, rfl⟩ := sr.get hi
      split at hp
      · rename_i a F hl
        refine ⟨f, _, hv1, ⟨z, a, F, hl, hf1, rfl⟩, ι, Z, Zf, μ, δ, g, sr, ?_⟩
        refine post.bind hp fun xs μ1 ι1 vs H1 e1 g1 r1 hp1 => ?_
        split at hp1
        · rename_i hn
          exact ⟨by rw [← r1.length]; exact hn, ι1, Z, μ1, xs, g1, r1, hp1⟩
        · exact hp1.elim
      · exact hp.elim
    · exact hp.elim
end
/-! ### comprehensions whose list is held by one name -/
def postF (K : PySem.W.Frag) (mg : Str → Option Value) (T : TW) (ι Z : List Addr) (H : Hp) (r : RM D) (Q : V → Hp → Prop) (W : Value → Option Addr → Hp → Prop) : Prop :=
  match r with
  | none => False
  | some (.ok d, μ) => ∃ ds, d = .lst ds ∧ ∀ ι' p vs H', Ext ι [] H ι' H' → H p = none → RG K mg T ι' (p :: Z) H' μ → H' p = some (.lst vs) → Rps K mg ι' (p :: Z) H' ds vs → Q (.ref p) H'
  | some (.error e, μ) => ∀ ι' H' cv dx, Ext ι [] H ι' H' → RG K mg T ι' Z H' μ → XR mg e cv dx H' → W cv dx H'
section
variable {α β : Type} {K : PySem.W.Frag} {mg : Str → Option Value} {T : TW} {rel : List Addr → List Addr → Hp → α → β → Prop} {ι Z ι1 : List Addr} {H H1 : Hp} {Q : β → Hp → Prop} {Q' : V → Hp → Prop} {W : Value → Option Addr → Hp → Prop}
theorem postF.mono {r : RM D} (h : postF K mg T ι Z H r Q' W) (e : Ext ι [] H ι1 H1) : postF K mg T ι1 Z H1 r Q' W := by
  match r, h with
  | some (.ok a, μ), ⟨ds, hd, h⟩ => exact ⟨ds, hd, fun ι' p vs H' e' hp => h ι' p vs H' (e.trans0 e') (e.free hp)⟩
  | some (.error x, μ), h => exact fun ι' H' cv dx e' => h ι' H' cv dx (e.trans0 e')
theorem postF.bind {x : RM α} {f : α → List Mo → RM D} (hp : postF K mg T ι Z H (bindR x f) Q' W)
    (h : ∀ a μ1 ι1 b H1, Ext ι [] H ι1 H1 → RG K mg T ι1 Z H1 μ1 → rel ι1 Z H1 a b → postF K mg T ι1 Z H1 (f a μ1) Q' W → Q b H1) : post K mg T rel ι Z H x Q W := by
  match x, hp with
  | some (.ok a, μ), hp => exact fun ι' b H' e' g r => h a μ ι' b H' e' g r (hp.mono e')
  | some (.error x, μ), hp => exact hp
end
section
variable {X : Cx} {T : TW} {W : WX} {pos : Pos}
theorem to_compF {ct : Tg} {ci : It} {cc ce : E} {vs : List Nat} (hsl : ∀ i ∈ ct.slots, i ∈ vs) {σ : L2.St} {H : Hp} {Q : VK} (hh : ∃ ι Z Zf μ δ, RG X.K X.mg T ι Z H μ ∧ SR X.K X.mg ι Z Zf H δ σ ∧ postF X.K X.mg T ι Z H (ev (.comp ce ct ci cc vs) δ μ) Q (WS W σ)) :
    tLc (tI X.K X.mg T W ci) (gT X.K X.mg T ct) (tT X.K X.mg T WF cc) (tE X.K X.mg T WF ce) vs σ H Q := by
  obtain ⟨ι, Z, Zf, μ, δ, g, sr, hp⟩ := hh
  refine ⟨ι, Z, Zf, μ, δ, g, sr, postF.bind hp fun xs μ1 ι1 J H1 e1 g1 wk hp1 => ?_⟩
  intro D hD
  obtain ⟨G, Y, wlk, hG, hY⟩ := wk
  have sr1 := sr.ext g e1
  have hz0 : ∀ z ∈ D :: Z, z ∈ Z ∨ H1 z = none := fun z q => by
    rcases List.mem_cons.mp q with q | q
    · rw [q]; exact .inr hD
    · exact .inl q
  have hDZ : D ∉ Z := (g1.notin hD).2
  refine lc_it wlk (fun i H2 => ∃ ι2 μ2 acc av, Ext ι1 [] H1 ι2 H2 ∧ RG X.K X.mg T ι2 (D :: Z) H2 μ2 ∧ H2 D = some (.lst av) ∧ Rps X.K X.mg ι2 (D :: Z) H2 acc av ∧ postF X.K X.mg T ι1 Z H1 (compL ct (ev cc) (ev ce) (wipeS δ vs) (xs.drop i) acc μ2) Q (WS W σ))
    ⟨ι1, μ1, [], [], ext_fresh hD, g1.consZ hD, upd_same, rfl, by simpa using hp1⟩ (fun i H2 _ ⟨ι2, μ2, acc, av, e2, _⟩ => hG ι2 [] H2 e2 (by simp)) ?_ ?_
  · rintro i x H2 H3 hi ⟨ι2, μ2, acc, av, e2, g2, hD2, ra, hp2⟩ y
    obtain ⟨d, hd⟩ : ∃ d, xs[i]? = some d := ⟨xs[i], List.getElem?_eq_getElem hi⟩
    obtain ⟨hh, rd⟩ := hY i d ι2 [] (D :: Z) H2 H3 x hd e2 (by simp) hz0 y
    have st3 : Ext ι2 [] H2 ι2 H3 ∧ RG X.K X.mg T ι2 (D :: Z) H3 μ2 ∧ H3 D = some (.lst av) := by
      rcases hh with rfl | ⟨p, o, hpn, rfl⟩
      · exact ⟨Ext.refl, g2, hD2⟩
      · exact ⟨ext_fresh hpn, g2.fresh hpn, by rw [upd_ne (ne_of_none hD2 hpn)]; exact hD2⟩
    obtain ⟨e3, g3, hD3⟩ := st3
    have ed : xs.drop i = d :: xs.drop (i + 1) := by
      rw [List.drop_eq_getElem_cons hi]
      congr 1
      have := List.getElem?_eq_getElem hi
      rw [hd] at this; exact (Option.some.inj this).symm
    rw [ed] at hp2
    unfold compL at hp2
    have e13 : Ext ι1 [] H1 ι2 H3 := e2.trans0 e3
    have sr3 : SR X.K X.mg ι2 (D :: Z) Zf H3 δ σ := sr1.extZ g1 e13 hz0 (fun z q => List.mem_cons_of_mem _ q)
    cases h1 : ct.put d (wipeS δ vs) with
    | none => rw [h1] at hp2; exact hp2.elim
    | some δ1 =>
      rw [h1] at hp2
      simp only [Option.bind_some] at hp2
      cases h2 : noE (ev cc δ1 μ2) with
      | none => rw [h2] at hp2; exact hp2.elim
      | some r =>
        obtain ⟨k, μ3⟩ := r
        rw [h2] at hp2
        simp only [Option.bind_some] at hp2
        refine ⟨ι2, D :: Z, Zf, wipeS δ vs, d, δ1, sr3.wipe vs, rd, h1, fun σ2 sr4 hw => ⟨by rw [hw vs hsl]; exact wipe_wipe σ vs, ?_⟩⟩
        cases k with
        | bl k =>
          refine ⟨ι2, D :: Z, Zf, μ2, δ1, g3, sr4, ?_⟩
          have h2' : noE (evT cc δ1 μ2) = some (k, μ3) := by
            unfold evT
            match hq : ev cc δ1 μ2, h2 with
            | some (.ok (.bl k'), μ'), h2 => simp only [noE, Option.some.injEq, Prod.mk.injEq, Mi.D.bl.injEq] at h2; obtain ⟨rfl, rfl⟩ := h2; rfl
          refine noE_post h2' fun ι5 b H5 e5 g5 hb => ?_
          subst hb
          have hD5 : H5 D = some (.lst av) := e5.keep D _ hD3 (g3.zl D (List.mem_cons_self ..)).2 (by simp) (fun _ z => by cases z)
          cases k with
          | false =>
            exact iteF ⟨ι5, μ3, acc, av, e13.trans0 e5, g5, hD5, (ra.ext0 e3).ext0 e5, hp2⟩
          | true =>
            simp only at hp2
            cases h3 : noE (ev ce δ1 μ3) with
            | none => rw [h3] at hp2; exact hp2.elim
            | some r =>
              obtain ⟨q, μ4⟩ := r
              rw [h3] at hp2
              simp only [Option.bind_some] at hp2
              split at hp2
              · rename_i hl
                refine iteT ⟨ι5, D :: Z, Zf, μ3, δ1, g5, sr4.ext g3 e5, noE_post h3 fun ι6 y6 H6 e6 g6 r6 => ?_⟩
                have hD6 : H6 D = some (.lst av) := e6.keep D _ hD5 (g5.zl D (List.mem_cons_self ..)).2 (by simp) (fun _ z => by cases z)
                have ra6 := ((ra.ext0 e3).ext0 e5).ext0 e6
                have eU := ext_updZ (ι := ι6) (ws := av ++ [y6]) hD6
                have sub : ∀ z ∈ [D], z ∈ D :: Z := by simp
                refine ⟨av, hD6, by rw [← ra.length]; exact hl, ι6, μ4, acc ++ [q], av ++ [y6], ?_, g6.updZ (List.mem_cons_self ..) hD6, upd_same, ?_, hp2⟩
                · exact ((e13.trans0 e5).trans0 e6).trans eU (fun z q => .inr (by rw [List.mem_singleton.mp q]; exact hD))
                · exact Rps.append (Rps.ext eU sub (fun z q => .inl q) _ _ ra6) ⟨y6, [], rfl, Rp.ext eU sub (fun z q => .inl q) _ _ r6, rfl⟩
              · exact hp2.elim
        | _ => exact hp2.elim
  · rintro H2 ⟨ι2, μ2, acc, av, e2, g2, hD2, ra, hp2⟩
    rw [List.drop_length] at hp2
    obtain ⟨ds, hd, hp2⟩ := hp2
    cases hd
    exact hp2 ι2 D av H2 e2 hD g2 hD2 ra
/-- a list made anew is held by one name alone -/
theorem SX.takeLin {K : PySem.W.Frag} {mg : Str → Option Value} {ι Zo Zf ι1 : List Addr} {H H1 : Hp} {μ μ1 : List Mo} {δ : List Sl} {σ : L2.St} (s : SX K mg T ι Zo Zf H μ δ σ) {p : Addr} {i : Nat} {xs : List Mi.D} {vs : List V} (e : Ext ι [] H ι1 H1) (hp : H p = none) (g : RG K mg T ι1 (p :: (Zo ++ Zf)) H1 μ1) (h1 : H1 p = some (.lst vs)) (r : Rps K mg ι1 (p :: (Zo ++ Zf)) H1 xs vs) :
    SX K mg T ι1 Zo (p :: Zf) H1 μ1 (δ.set i (.lin xs)) (σ.set i (some (.ref p))) := by
  have sub : ∀ z ∈ Zo ++ p :: Zf, z ∈ p :: (Zo ++ Zf) := fun z q => by
    rcases List.mem_append.mp q with q | q
    · exact List.mem_cons_of_mem _ (List.mem_append_left _ q)
    · rcases List.mem_cons.mp q with q | q
      · rw [q]; exact List.mem_cons_self ..
      · exact List.mem_cons_of_mem _ (List.mem_append_right _ q)
  have hz : ∀ z ∈ Zo ++ p :: Zf, z ∈ Zo ++ Zf ∨ H z = none := fun z q => by
    rcases List.mem_cons.mp (sub z q) with q | q
    · rw [q]; exact .inr hp
    · exact .inl q
  have nz := (s.g.notin hp)
  refine ⟨g.weakZ sub, ?_, fun z q => ?_⟩
  · have olds : ∀ (j : Nat) (y : Sl), δ[j]? = some y → SlOk K mg ι1 (Zo ++ p :: Zf) (p :: Zf) H1 y σ[j]? := fun j y hy => by
      have h := s.s.ok j y hy
      cases y with
      | un => trivial
      | d x => obtain ⟨v, h1, h2⟩ := h; exact ⟨v, h1, Rp.ext e (by simp) hz x v h2⟩
      | lin ys =>
        obtain ⟨a, ws, h1, h2, h3, h4⟩ := h
        exact ⟨a, ws, h1, List.mem_cons_of_mem _ h2, e.keep a _ h3 (s.g.zl a (s.s.sub a h2)).2 (by simp) (fun _ z => by cases z), Rps.ext e (by simp) hz _ _ h4⟩
    refine ⟨by simp [s.s.len], fun j y hy => ?_, fun j k ys zs a h1 h2 h3 h4 => ?_, fun z q => List.mem_append_right _ q⟩
    · by_cases q : i = j
      · subst q
        have hl : i < δ.length := by
          have := (List.getElem?_eq_some_iff.mp hy).1
          simpa using this
        rw [List.getElem?_set_self hl] at hy
        cases hy
        exact ⟨p, vs, by rw [List.getElem?_set_self (by rw [← s.s.len]; exact hl)], List.mem_cons_self .., h1, r.weak sub⟩
      · rw [List.getElem?_set_ne q] at hy ⊢
        exact olds j y hy
    · have notp : ∀ (j : Nat) (ys : List Mi.D), j ≠ i → (δ.set i (Sl.lin xs))[j]? = some (Sl.lin ys) → (σ.set i (some (V.ref p)))[j]? ≠ some (some (V.ref p)) := fun j ys hj hy q => by
        rw [List.getElem?_set_ne (Ne.symm hj)] at hy q
        obtain ⟨a, ws, e1, e2, e3, _⟩ := s.s.ok j _ hy
        rw [q] at e1; cases e1
        rw [hp] at e3; cases e3
      by_cases q1 : j = i
      · by_cases q2 : k = i
        · rw [q1, q2]
        · subst q1
          have hl : j < σ.length := by
            have := (List.getElem?_eq_some_iff.mp h3).1
            simpa using this
          rw [List.getElem?_set_self hl] at h3
          cases h3
          exact absurd h4 (notp k zs q2 h2)
      · by_cases q2 : k = i
        · subst q2
          have hl : k < σ.length := by
            have := (List.getElem?_eq_some_iff.mp h4).1
            simpa using this
          rw [List.getElem?_set_self hl] at h4
          cases h4
          exact absurd h3 (notp j ys q1 h1)
        · rw [List.getElem?_set_ne (Ne.symm q1)] at h1 h3
          rw [List.getElem?_set_ne (Ne.symm q2)] at h2 h4
          exact s.s.apart j k ys zs a h1 h2 h3 h4
  · rcases List.mem_cons.mp q with q | q
    · rw [q]; exact fun z => nz.2 (List.mem_append_left _ z)
    · exact s.dj z q
/-- name = [.. for ..], a list that this name alone holds -/
theorem linc_end {i : Nat} {σ : L2.St} {H : Hp} {D : Ends} {ct : Tg} {ci : It} {cc ce : E} {vs : List Nat} (hsl : ∀ i ∈ ct.slots, i ∈ vs) (h : tS X.K X.mg T W (.linc i (.comp ce ct ci cc vs)) D σ H) : tLc (tI X.K X.mg T W ci) (gT X.K X.mg T ct) (tT X.K X.mg T WF cc) (tE X.K X.mg T WF ce) vs σ H fun x H1 => gName i x σ H1 D.nx := by
  obtain ⟨ι, Zo, Zf, μ, δ, s, hp⟩ := h
  simp only [ex] at hp
  refine to_compF (T := T) (W := W) hsl ⟨ι, Zo ++ Zf, Zf, μ, δ, s.g, s.s, ?_⟩
  match hq : ev (.comp ce ct ci cc vs) δ μ, hp with
  | some (.error e, μ1), hp =>
    intro ι1 H1 cv dx e1 g1 xr
    exact hp ι1 Zf σ H1 (e1.mono (by simp)) (fun _ z => .inl z) ⟨g1, s.s.ext s.g e1, s.dj⟩ cv dx xr
  | some (.ok d, μ1), hp =>
    cases d with
    | lst ds =>
      refine ⟨ds, rfl, fun ι1 p vs1 H1 e1 hpn g1 h1 r1 => ?_⟩
      have sx := s.takeLin (i := i) (μ1 := μ1) e1 hpn g1 h1 r1
      exact (hp.mono (ι1 := ι1) (Zf1 := p :: Zf) (e1.mono (by simp)) fun z hz => by
        rcases List.mem_cons.mp hz with e | e
        · rw [e]; exact .inr hpn
        · exact .inl e).nx sx
    | _ => exact hp.elim
theorem s_lincA {i : Nat} {y : Str} {py cpos : Pos} {elt iter : Expr} {tg : Expr} {ifs : List Expr} {scope : Scope} {own : List (Str × Nat)} {ct : Tg} {ci : It} {cc ce : E} (hc : X.calm = true) (hN : X.N.Nodup) (hy : X.N[i]? = some y) (hyl : X.env.scope.names.lookup y = some .local)
    (hsw : swapsWith (.ListComp elt [⟨tg, iter, ifs, 0⟩] scope cpos) (some (.Name y py)) pos.line X.env = pure true) (hi : PI X tg iter (tI X.K X.mg T W ci)) (ok : BlkOk X.N X.env.scope scope own)
    (hg : ∀ (s : Shared) (H : Hp) (C : Addr) (cl : List (Str × Addr)) (fp : List Addr), PG (X.blk s H scope (compEnvC scope cl C X.env) fp) tg (gT X.K X.mg T ct))
    (ht : ∀ (s : Shared) (H : Hp) (C : Addr) (cl : List (Str × Addr)) (fp : List Addr), PTs (X.blk s H scope (compEnvC scope cl C X.env) fp) ifs (tT X.K X.mg T WF cc))
    (he : ∀ (s : Shared) (H : Hp) (C : Addr) (cl : List (Str × Addr)) (fp : List Addr), PE (X.blk s H scope (compEnvC scope cl C X.env) fp) elt (tE X.K X.mg T WF ce)) (hs : ∀ x, foldedSetIterable iter X.env x = pure x)
    (vs : List Nat) (hvs : vs = own.map (·.2)) (hsl : ∀ i ∈ ct.slots, i ∈ vs) : PS X (.Assign [.Name y py] (.ListComp elt [⟨tg, iter, ifs, 0⟩] scope cpos) pos) (tS X.K X.mg T W (.linc i (.comp ce ct ci cc vs))) :=
  PS.imp (ps_setLc hc hN hy hyl hsw hi ok hg ht he hs) fun D σ H h => by
    rw [← hvs]
    exact linc_end hsl h
theorem s_lincB {i : Nat} {y : Str} {py cpos : Pos} {elt iter : Expr} {tg : Expr} {ifs : List Expr} {scope : Scope} {own : List (Str × Nat)} {ct : Tg} {ci : It} {cc ce : E} (hc : X.calm = true) (hN : X.N.Nodup) (hy : X.N[i]? = some y) (hx : Loc X.env.scope y) (hf : X.fn y = true ∨ X.env.scope.names.lookup y = some .local)
    (hsw : swapsWith (.ListComp elt [⟨tg, iter, ifs, 0⟩] scope cpos) (some (.Name y py)) pos.line X.env = pure false) (hi : PI X tg iter (tI X.K X.mg T W ci)) (ok : BlkOk X.N X.env.scope scope own)
    (hg : ∀ (s : Shared) (H : Hp) (C : Addr) (cl : List (Str × Addr)) (fp : List Addr), PG (X.blk s H scope (compEnvC scope cl C X.env) fp) tg (gT X.K X.mg T ct))
    (ht : ∀ (s : Shared) (H : Hp) (C : Addr) (cl : List (Str × Addr)) (fp : List Addr), PTs (X.blk s H scope (compEnvC scope cl C X.env) fp) ifs (tT X.K X.mg T WF cc))
    (he : ∀ (s : Shared) (H : Hp) (C : Addr) (cl : List (Str × Addr)) (fp : List Addr), PE (X.blk s H scope (compEnvC scope cl C X.env) fp) elt (tE X.K X.mg T WF ce)) (hs : ∀ x, foldedSetIterable iter X.env x = pure x)
    (vs : List Nat) (hvs : vs = own.map (·.2)) (hsl : ∀ i ∈ ct.slots, i ∈ vs) : PS X (.Assign [.Name y py] (.ListComp elt [⟨tg, iter, ifs, 0⟩] scope cpos) pos) (tS X.K X.mg T W (.linc i (.comp ce ct ci cc vs))) :=
  PS.imp (ps_set hN hy hx (pe_lc hc hN hi ok hg ht he hs) hsw hf) fun D σ H h => by
    rw [← hvs]
    exact linc_end hsl h
/-- what a list sum asks whose outcome one name alone holds -/
def rF (K : PySem.W.Frag) (mg : Str → Option Value) (T : TW) : R2 := fun x y H Q => ∃ ι Z μ d e ds, RG K mg T ι Z H μ ∧ Rp K mg ι Z H d x ∧ Rp K mg ι Z H e y ∧ addD μ d e = some (.lst ds) ∧
  ∀ ι' p vs H', Ext ι [] H ι' H' → H p = none → RG K mg T ι' (p :: Z) H' μ → H' p = some (.lst vs) → Rps K mg ι' (p :: Z) H' ds vs → Q (.ref p) H'
theorem ok_addF : OpR X (binaryOp .Add) (rF X.K X.mg T) := by
  intro pins s σ H x y v u Q I rx ry h
  obtain ⟨ι, Z, μ, d, e, ds, g, hd, he, ho, q⟩ := h
  simp only [addD] at ho
  split at ho
  · cases ho
  · cases ho
  · split at ho <;> cases ho
  · split at ho <;> cases ho
  · rename_i xs ys e1 e2
    obtain ⟨a, vs, rfl, h1, h2⟩ := see_lst g e1 hd
    obtain ⟨b, ws, rfl, h3, h4⟩ := see_lst g e2 he
    split at ho <;> cases ho
    rename_i hz
    have l1 := h2.length
    have l2 := h4.length
    refine op_cat pins s σ H _ _ v u Q I rx ry ⟨a, b, vs, ws, rfl, rfl, h1, h3, by omega, fun p hp => q ι p (vs ++ ws) _ (ext_fresh hp) hp (g.consZ hp) upd_same ?_⟩
    exact Rps.ext (Zf := []) (ext_fresh hp) (by simp) (fun z hz => (List.mem_cons.mp hz).elim (fun e => .inr (e ▸ hp)) .inl) _ _ (h2.append h4)
  · cases ho
theorem to_opF {ca cb : E} {σ : L2.St} {H : Hp} {Q : VK} (hh : ∃ ι Z Zf μ δ, RG X.K X.mg T ι Z H μ ∧ SR X.K X.mg ι Z Zf H δ σ ∧ postF X.K X.mg T ι Z H (ev (.op .add ca cb) δ μ) Q (WS W σ)) :
    tOp (rF X.K X.mg T) (tE X.K X.mg T W ca) (tE X.K X.mg T W cb) σ H Q := by
  obtain ⟨ι, Z, Zf, μ, δ, g, sr, hp⟩ := hh
  refine ⟨ι, Z, Zf, μ, δ, g, sr, postF.bind hp fun x μ1 ι1 v H1 e1 g1 r1 hp1 => ?_⟩
  refine ⟨ι1, Z, Zf, μ1, δ, g1, sr.ext g e1, postF.bind hp1 fun y μ2 ι2 w H2 e2 g2 r2 hp2 => ?_⟩
  unfold optR at hp2
  cases ho : Op.do .add μ2 x y with
  | none => rw [ho] at hp2; exact hp2.elim
  | some r =>
    rw [ho] at hp2
    obtain ⟨ds, rfl, hq⟩ := hp2
    exact ⟨ι2, Z, μ2, x, y, ds, g2, r1.ext0 e2, r2, ho, hq⟩
theorem linc_opEnd {i : Nat} {σ : L2.St} {H : Hp} {D : Ends} {ca cb : E} (h : tS X.K X.mg T W (.linc i (.op .add ca cb)) D σ H) : tOp (rF X.K X.mg T) (tE X.K X.mg T W ca) (tE X.K X.mg T W cb) σ H fun x H1 => gName i x σ H1 D.nx := by
  obtain ⟨ι, Zo, Zf, μ, δ, s, hp⟩ := h
  simp only [ex] at hp
  refine to_opF (T := T) (W := W) ⟨ι, Zo ++ Zf, Zf, μ, δ, s.g, s.s, ?_⟩
  match hq : ev (.op .add ca cb) δ μ, hp with
  | some (.error e, μ1), hp =>
    intro ι1 H1 cv dx e1 g1 xr
    exact hp ι1 Zf σ H1 (e1.mono (by simp)) (fun _ z => .inl z) ⟨g1, s.s.ext s.g e1, s.dj⟩ cv dx xr
  | some (.ok d, μ1), hp =>
    cases d with
    | lst ds =>
      refine ⟨ds, rfl, fun ι1 p vs1 H1 e1 hpn g1 h1 r1 => ?_⟩
      have sx := s.takeLin (i := i) (μ1 := μ1) e1 hpn g1 h1 r1
      exact (hp.mono (ι1 := ι1) (Zf1 := p :: Zf) (e1.mono (by simp)) fun z hz => by
        rcases List.mem_cons.mp hz with e | e
        · rw [e]; exact .inr hpn
        · exact .inl e).nx sx
    | _ => exact hp.elim
theorem s_lincOp {i : Nat} {y : Str} {py bp : Pos} {a b : Expr} {ca cb : E} (hN : X.N.Nodup) (hy : X.N[i]? = some y) (hx : Loc X.env.scope y) (hf : X.fn y = true ∨ X.env.scope.names.lookup y = some .local)
    (hsw : swapsWith (.BinOp a .Add b bp) (some (.Name y py)) pos.line X.env = pure false) (ha : PE X a (tE X.K X.mg T W ca)) (hb : PE X b (tE X.K X.mg T W cb)) :
    PS X (.Assign [.Name y py] (.BinOp a .Add b bp) pos) (tS X.K X.mg T W (.linc i (.op .add ca cb))) :=
  PS.imp (ps_set hN hy hx (pe_op ok_addF ha hb) hsw hf) fun D σ H h => linc_opEnd h
/-- name[k] = e, of a list that one name alone holds -/
theorem s_lput {e i : Expr} {ce ci : E} {n : Nat} {x : Str} {px p : Pos} (he : PE X e (tE X.K X.mg T W ce)) (hN : X.N[n]? = some x) (hv : Vis X.env.scope x) (hd : (x == ("__debug__" : Str)) = false) (hcd : (x == ("__classdict__" : Str)) = false) (hi : PE X i (tE X.K X.mg T W ci)) (hs : swapsWithSole [.Subscript (.Name x px) i p] e pos.line X.env = pure false) (hw : swappedStores [.Subscript (.Name x px) i p] e X.env = pure none)
    (h1 : (assignEach [.Subscript (.Name x px) i p] X.env).map (·.2) = [assign (.Subscript (.Name x px) i p) X.env]) (ha : ∀ v, assign (.Subscript (.Name x px) i p) X.env v = (do
      let ov ← holding [v] (eval (.Name x px) X.env)
      let iv ← holding [v, ov] (eval i X.env)
      standAt p
      holding [v, ov, iv] (setItem ov iv v)
      release [v, ov, iv] [])) : PS X (.Assign [.Subscript (.Name x px) i p] e pos) (tS X.K X.mg T W (.lput n ci ce)) :=
  PS.imp (ps_asg he (pg_sub (pe_var hN hv hd hcd) hi set_list ha) hs hw h1) fun D σ H h => by
    obtain ⟨ι, Zo, Zf, μ, δ, s, hp⟩ := h
    simp only [ex] at hp
    refine ⟨ι, Zo ++ Zf, Zf, μ, δ, s.g, s.s, hp.thenE s fun v μ1 ι1 v' H1 e1 r1 s1 h1 => ?_⟩
    cases hn : δ[n]? with
    | none => rw [hn] at h1; exact h1.elim
    | some y =>
      rw [hn] at h1
      cases y with
      | lin xs =>
        obtain ⟨a, vs, g1, g2, g3, g4⟩ := s1.s.ok n _ hn
        refine ⟨.ref a, g1, ι1, Zo ++ Zf, Zf, μ1, δ, s1.g, s1.s, h1.thenE s1 fun k μ2 ι2 k' H2 e2 r2 s2 h2 => ?_⟩
        cases k with
        | int k =>
          simp only at h2
          have r2' : k' = V.int k := r2
          subst r2'
          cases hx : L2.ixN xs.length k with
          | none => rw [hx] at h2; exact h2.elim
          | some j =>
            rw [hx] at h2
            simp only [Option.bind_some] at h2
            have ha : a ∈ Zo ++ Zf := List.mem_append_right _ g2
            have h6 : H2 a = some (.lst vs) := e2.keep a _ g3 (s1.g.zl a ha).2 (by simp) (fun _ z => by cases z)
            refine ⟨a, vs, k, j, rfl, rfl, h6, by rw [← g4.length]; exact hx, ?_⟩
            have eU := ext_updZ (ι := ι2) (ws := vs.set j v') h6
            have sub : ∀ z ∈ [a], z ∈ Zo ++ Zf := fun z q => by rw [List.mem_singleton.mp q]; exact ha
            refine (h2.mono (ι1 := ι2) (Zf1 := Zf) (eU.mono fun z q => by rw [List.mem_singleton.mp q]; exact g2) fun _ z => .inl z).nx ⟨s2.g.updZ ha h6, ?_, s2.dj⟩
            have hl : n < δ.length := (List.getElem?_eq_some_iff.mp hn).1
            refine ⟨by rw [List.length_set]; exact s2.s.len, fun j2 y hy => ?_, fun j1 k1 ys zs b q1 q2 q3 q4 => ?_, s2.s.sub⟩
            · by_cases q : n = j2
              · subst q
                rw [List.getElem?_set_self hl] at hy
                cases hy
                refine ⟨a, vs.set j v', g1, g2, upd_same, ?_⟩
                exact Rps.set j (Rps.ext eU sub (fun _ z => .inl z) _ _ (g4.ext0 e2)) (Rp.ext eU sub (fun _ z => .inl z) _ _ (r1.ext0 e2))
              · rw [List.getElem?_set_ne q] at hy
                have hj := s2.s.ok j2 y hy
                cases y with
                | un => trivial
                | d z => obtain ⟨w, w1, w2⟩ := hj; exact ⟨w, w1, Rp.ext eU sub (fun _ z => .inl z) _ _ w2⟩
                | lin ys =>
                  obtain ⟨b, ws, w1, w2, w3, w4⟩ := hj
                  have hne : b ≠ a := fun z => by
                    subst z
                    exact q (s2.s.apart n j2 xs ys b hn hy g1 w1)
                  exact ⟨b, ws, w1, w2, by rw [upd_ne hne]; exact w3, Rps.ext eU sub (fun _ z => .inl z) _ _ w4⟩
            · have nj : ∀ (j1 : Nat) (ys : List Mi.D), (δ.set n (Sl.lin (xs.set j v)))[j1]? = some (Sl.lin ys) → ∃ zs, δ[j1]? = some (Sl.lin zs) := fun j1 ys hj => by
                by_cases q : n = j1
                · subst q; exact ⟨xs, hn⟩
                · rw [List.getElem?_set_ne q] at hj
                  exact ⟨ys, hj⟩
              obtain ⟨ys', q1⟩ := nj j1 ys q1
              obtain ⟨zs', q2⟩ := nj k1 zs q2
              exact s2.s.apart j1 k1 ys' zs' b q1 q2 q3 q4
        | _ => exact h2.elim
      | _ => exact h1.elim
/-- x, y = e, [] -/
theorem s_setl {i j : Nat} {x y : Str} {a : Expr} {ca : E} {px py pt pl : Pos} {kt k2 pt2} (hc : X.calm = true) (hN : X.N.Nodup) (hi : X.N[i]? = some x) (hj : X.N[j]? = some y) (hij : i ≠ j)
    (hx : X.env.scope.names.lookup x = some .local) (hy : X.env.scope.names.lookup y = some .local) (ha : PE X a (tE X.K X.mg T W ca)) (hst : starEach [a, .List [] pl] X.env = (false, eval a X.env) :: starEach [.List [] pl] X.env)
    (hw : swappedStores [.Tuple [.Name x px, .Name y py] kt pt] (.Tuple [a, .List [] pl] k2 pt2) X.env = pure (some [x, y]))
    (hs : swapsWithSole [.Tuple [.Name x px, .Name y py] kt pt] (.Tuple [a, .List [] pl] k2 pt2) pos.line X.env = pure false) :
    PS X (.Assign [.Tuple [.Name x px, .Name y py] kt pt] (.Tuple [a, .List [] pl] k2 pt2) pos) (tS X.K X.mg T W (.setl i j ca)) :=
  PS.imp (ps_par hc hN hi hj hij hx hy (pa_cons ha (pa_cons (pe_lst pa_nil) pa_nil rfl) hst) hw hs) fun D σ H h => by
    obtain ⟨ι, Zo, Zf, μ, δ, s, hp⟩ := h
    simp only [ex] at hp
    refine ⟨ι, Zo ++ Zf, Zf, μ, δ, s.g, s.s, hp.thenE s fun v μ1 ι1 v' H1 e1 r1 s1 h1 => ?_⟩
    refine ⟨by simp, fun q hq => ⟨v', .ref q, rfl, ?_⟩⟩
    have s2 : SX X.K X.mg T ι1 Zo Zf H1 μ1 (δ.set i (.d v)) (σ.set i (some v')) := ⟨s1.g, s1.s.set r1, s1.dj⟩
    refine (h1.mono (ι1 := ι1) (Zf1 := q :: Zf) (ext_fresh (o := .lst []) hq) fun z hz => ?_).nx (s2.newLin hq (xs := []) (vs := []) rfl)
    rcases List.mem_cons.mp hz with e | e
    · rw [e]; exact .inr hq
    · exact .inl e
end
end Mi
set_option Elab.async false
set_option linter.all false
set_option maxRecDepth 100000
set_option maxHeartbeats 4000000
/-! Nk: list comprehensions of two and three clauses, clause by clause. -/
namespace Mi
open PySem PySem.Spec PyProof.Rows L2
/-- what a clause's body comes to -/
abbrev BW := (Shared → Prop) → Shared → Prop
abbrev BT := L2.St → Hp → (Hp → Prop) → Prop
/-- the next clause is begun and gone through -/
def nextW (prog : Program) (w : World) (A : Around) (cmp : Expr) (idx : Nat) (i : Expr) (acc : Value) (env : Env) : BW := fun P s =>
  wpAny (model prog w) A (eval i env) (fun x s₄ => wpAny (model prog w) A (pyIter x) (fun it1 s₅ => codeAny (model prog w) A (.compStart cmp idx it1 acc env) (fun r s' => match r with
    | .ok _ => P s'
    | .error _ => False) s₅) (fun _ _ => False) s₄) (fun _ _ => False) s
/-- an item more -/
def lastW (prog : Program) (w : World) (A : Around) (elt : Expr) (acc : Value) (env : Env) : BW := fun P s =>
  wpAny (model prog w) A (eval elt env) (fun x s₄ => wpAny (model prog w) A (call (.builtin "list.append") [acc, x]) (fun _ s₅ => P s₅) (fun _ _ => False) s₄) (fun _ _ => False) s
/-- a clause's turns, as the model goes through them -/
def TurnW (prog : Program) (w : World) (A : Around) (cmp : Expr) (idx : Nat) (t : Expr) (ifs : List Expr) (acc : Value) (env : Env) (b : BW) : Prop := ∀ (R : Result → Shared → Prop) (s : Shared) (it : Value) (I : Nat → Shared → Prop),
  (∀ n s, I n s → wpAny (model prog w) A (pyNext it) (fun r s₁ => match r with
      | none => R (.ok .next) s₁
      | some v => wpAny (model prog w) A (letOwnedTupleGo t it v) (fun _ s₁' => wpAny (model prog w) A (assign t env v) (fun _ s₂ =>
          wpAny (model prog w) A (forIn ifs true fun c r => if r = true then do let ok ← isTrue c env (eval c env); pure (ForInStep.yield ok) else pure (ForInStep.yield r)) (fun ok s₃ =>
            if ok = true then b (fun s' => ∃ m, m < n ∧ I m s') s₃ else ∃ m, m < n ∧ I m s₃) (fun _ _ => False) s₂) (fun _ _ => False) s₁') (fun _ _ => False) s₁) (fun _ _ => False) s) →
  ∀ n, I n s → codeAny (model prog w) A (.compLoop cmp idx it acc env) R s
def StartW (prog : Program) (w : World) (A : Around) (cmp : Expr) (idx : Nat) (acc : Value) (env : Env) : Prop := ∀ (R : Result → Shared → Prop) (s : Shared) (it : Value),
  codeAny (model prog w) A (.compLoop cmp idx it acc env) R s →
  wpAny (model prog w) A (pyIter it) (fun it' s' => codeAny (model prog w) A (.compLoop cmp idx it' acc env) R s') (notedBy (model prog w) A env fun x s' => R (.error x) s') s →
  codeAny (model prog w) A (.compStart cmp idx it acc env) R s
theorem monoF {α : Type} {t : PySem.Sem α} {Q Q' : α → Shared → Prop} {M : Model} {A : Around} {E : Value → Shared → Prop} {s : Shared} (h : wpAny M A t Q (fun _ _ => False) s) (hQ : ∀ a s, Q a s → Q' a s) : wpAny M A t Q' E s := wpAny_mono h hQ fun _ _ z => False.elim z
theorem cturn2_0 (elt t0 i0 t1 i1 : Expr) (ifs0 ifs1 : List Expr) (scope : Scope) (pos : Pos) (it acc : Value) (env : Env) :
    compTurn (.ListComp elt [⟨t0, i0, ifs0, 0⟩, ⟨t1, i1, ifs1, 0⟩] scope pos) 0 it acc env = (do
      standAt i0.pos
      match ← pyNext it with
      | none => pure (.done .next)
      | some v =>
        letOwnedTupleGo t0 it v
        assign t0 env v
        let mut ok := true
        for c in ifs0 do
          if ok then ok ← isTrue c env (eval c env)
        if ok then
          let x ← eval i1 env
          standAt i1.pos
          let x ← foldedSetIterable i1 env x
          let _ ← runOwn (.compStart (.ListComp elt [⟨t0, i0, ifs0, 0⟩, ⟨t1, i1, ifs1, 0⟩] scope pos) 1 (← holding [x] (pyIter x)) acc env) env
        again (.compLoop (.ListComp elt [⟨t0, i0, ifs0, 0⟩, ⟨t1, i1, ifs1, 0⟩] scope pos) 0 it acc env)) := by rfl
theorem turnW2_0 {prog : Program} {w : World} {A : Around} {elt t0 i0 t1 i1 : Expr} {ifs0 ifs1 : List Expr} {scope : Scope} {pos : Pos} {acc : Value} {env : Env} (hs : ∀ x, foldedSetIterable i1 env x = pure x) :
    TurnW prog w A (.ListComp elt [⟨t0, i0, ifs0, 0⟩, ⟨t1, i1, ifs1, 0⟩] scope pos) 0 t0 ifs0 acc env (nextW prog w A (.ListComp elt [⟨t0, i0, ifs0, 0⟩, ⟨t1, i1, ifs1, 0⟩] scope pos) 1 i1 acc env) := by
  intro R s it I turn n h
  refine codeAny_loop rfl I (fun n s hI => ?_) n h
  show wpAny _ A ((compTurn (.ListComp elt [⟨t0, i0, ifs0, 0⟩, ⟨t1, i1, ifs1, 0⟩] scope pos) 0 it acc env).onRaise (fun x => do noteFrame x env; theTreesLotGoes x)) _ _ s
  refine wpAny_noted ?_
  rw [cturn2_0]
  refine wpAny_bind (wpAny_standAt (wpAny_bind (monoF (turn n s hI) (fun r s₁ h₁ => ?_))))
  cases r with
  | none => exact wpAny_pure h₁
  | some v =>
    refine wpAny_bind (monoF h₁ (fun _ s₁' h₁' => ?_))
    refine wpAny_bind (monoF h₁' (fun _ s₂ h₂ => wpAny_bind (monoF h₂ (fun ok s₃ h₃ => ?_))))
    cases ok with
    | false => exact wpAny_pure ⟨rfl, h₃⟩
    | true =>
      refine wpAny_bind (monoF h₃ (fun x s₄ h₄ => ?_))
      refine wpAny_bind (wpAny_standAt (wpAny_bind (wpAny_of_eq (hs x) (wpAny_bind (wpAny_holding (monoF h₄ (fun it1 s₅ h₅ => ?_)))))))
      refine wpAny_bind (wpAny_runOwn ?_)
      rw [Around.mark_none]
      refine codeAny_mono h₅ fun r s' hr => ?_
      cases r with
      | ok f =>
        first
          | exact wpAny_pure ⟨rfl, hr⟩
          | exact wpAny_bind (wpAny_pure (wpAny_pure ⟨rfl, hr⟩))
      | error e => exact hr.elim
theorem cturn2_1 (elt t0 i0 t1 i1 : Expr) (ifs0 ifs1 : List Expr) (scope : Scope) (pos : Pos) (it acc : Value) (env : Env) :
    compTurn (.ListComp elt [⟨t0, i0, ifs0, 0⟩, ⟨t1, i1, ifs1, 0⟩] scope pos) 1 it acc env = (do
      standAt i1.pos
      match ← pyNext it with
      | none => pure (.done .next)
      | some v =>
        letOwnedTupleGo t1 it v
        assign t1 env v
        let mut ok := true
        for c in ifs1 do
          if ok then ok ← isTrue c env (eval c env)
        if ok then
          (do let _ ← call (.builtin "list.append") [acc, ← eval elt env])
        again (.compLoop (.ListComp elt [⟨t0, i0, ifs0, 0⟩, ⟨t1, i1, ifs1, 0⟩] scope pos) 1 it acc env)) := by rfl
theorem turnW2_1 {prog : Program} {w : World} {A : Around} {elt t0 i0 t1 i1 : Expr} {ifs0 ifs1 : List Expr} {scope : Scope} {pos : Pos} {acc : Value} {env : Env} :
    TurnW prog w A (.ListComp elt [⟨t0, i0, ifs0, 0⟩, ⟨t1, i1, ifs1, 0⟩] scope pos) 1 t1 ifs1 acc env (lastW prog w A elt acc env) := by
  intro R s it I turn n h
  refine codeAny_loop rfl I (fun n s hI => ?_) n h
  show wpAny _ A ((compTurn (.ListComp elt [⟨t0, i0, ifs0, 0⟩, ⟨t1, i1, ifs1, 0⟩] scope pos) 1 it acc env).onRaise (fun x => do noteFrame x env; theTreesLotGoes x)) _ _ s
  refine wpAny_noted ?_
  rw [cturn2_1]
  refine wpAny_bind (wpAny_standAt (wpAny_bind (monoF (turn n s hI) (fun r s₁ h₁ => ?_))))
  cases r with
  | none => exact wpAny_pure h₁
  | some v =>
    refine wpAny_bind (monoF h₁ (fun _ s₁' h₁' => ?_))
    refine wpAny_bind (monoF h₁' (fun _ s₂ h₂ => wpAny_bind (monoF h₂ (fun ok s₃ h₃ => ?_))))
    cases ok with
    | false => exact wpAny_pure ⟨rfl, h₃⟩
    | true =>
      exact wpAny_bind (wpAny_bind (monoF h₃ (fun x s₄ h₄ => wpAny_bind (monoF h₄ (fun _ s₅ h₅ => wpAny_pure (wpAny_pure ⟨rfl, h₅⟩))))))
theorem startW2_1 {prog : Program} {w : World} {A : Around} {elt t0 i0 t1 i1 : Expr} {ifs0 ifs1 : List Expr} {scope : Scope} {pos : Pos} {acc : Value} {env : Env} : StartW prog w A (.ListComp elt [⟨t0, i0, ifs0, 0⟩, ⟨t1, i1, ifs1, 0⟩] scope pos) 1 acc env := by
  intro R s it h0 h
  refine codeAny_of_tree ?_
  show wpAny _ _ ((compStart (.ListComp elt [⟨t0, i0, ifs0, 0⟩, ⟨t1, i1, ifs1, 0⟩] scope pos) 1 it acc env).onRaise (fun x => do noteFrame x env; standAt theWindowsPlace)) _ _ s
  refine wpAny_notedAt ?_
  unfold compStart
  show wpAny _ _ (ask >>= _) _ _ s
  refine wpAny_bind (wpAny_askSetting (wpAny_ite ?_))
  split
  · first
      | exact wpAny_bind (wpAny_pure (wpAny_pure (And.intro rfl h0)))
      | exact wpAny_pure (And.intro rfl h0)
  · first
      | exact wpAny_bind (wpAny_rule (wpAny_bind (wpAny_standAt (wpAny_bind (wpAny_mono h (fun it' s' h' => wpAny_pure (And.intro rfl h')) fun _ _ x => x)))))
      | (refine wpAny_bind (wpAny_rule ?_); show wpAny _ _ (standAt i1.pos >>= _) _ _ s; exact wpAny_bind (wpAny_standAt (wpAny_bind (wpAny_mono h (fun it' s' h' => wpAny_pure (And.intro rfl h')) fun _ _ x => x))))
theorem cturn3_0 (elt t0 i0 t1 i1 t2 i2 : Expr) (ifs0 ifs1 ifs2 : List Expr) (scope : Scope) (pos : Pos) (it acc : Value) (env : Env) :
    compTurn (.ListComp elt [⟨t0, i0, ifs0, 0⟩, ⟨t1, i1, ifs1, 0⟩, ⟨t2, i2, ifs2, 0⟩] scope pos) 0 it acc env = (do
      standAt i0.pos
      match ← pyNext it with
      | none => pure (.done .next)
      | some v =>
        letOwnedTupleGo t0 it v
        assign t0 env v
        let mut ok := true
        for c in ifs0 do
          if ok then ok ← isTrue c env (eval c env)
        if ok then
          let x ← eval i1 env
          standAt i1.pos
          let x ← foldedSetIterable i1 env x
          let _ ← runOwn (.compStart (.ListComp elt [⟨t0, i0, ifs0, 0⟩, ⟨t1, i1, ifs1, 0⟩, ⟨t2, i2, ifs2, 0⟩] scope pos) 1 (← holding [x] (pyIter x)) acc env) env
        again (.compLoop (.ListComp elt [⟨t0, i0, ifs0, 0⟩, ⟨t1, i1, ifs1, 0⟩, ⟨t2, i2, ifs2, 0⟩] scope pos) 0 it acc env)) := by rfl
theorem turnW3_0 {prog : Program} {w : World} {A : Around} {elt t0 i0 t1 i1 t2 i2 : Expr} {ifs0 ifs1 ifs2 : List Expr} {scope : Scope} {pos : Pos} {acc : Value} {env : Env} (hs : ∀ x, foldedSetIterable i1 env x = pure x) :
    TurnW prog w A (.ListComp elt [⟨t0, i0, ifs0, 0⟩, ⟨t1, i1, ifs1, 0⟩, ⟨t2, i2, ifs2, 0⟩] scope pos) 0 t0 ifs0 acc env (nextW prog w A (.ListComp elt [⟨t0, i0, ifs0, 0⟩, ⟨t1, i1, ifs1, 0⟩, ⟨t2, i2, ifs2, 0⟩] scope pos) 1 i1 acc env) := by
  intro R s it I turn n h
  refine codeAny_loop rfl I (fun n s hI => ?_) n h
  show wpAny _ A ((compTurn (.ListComp elt [⟨t0, i0, ifs0, 0⟩, ⟨t1, i1, ifs1, 0⟩, ⟨t2, i2, ifs2, 0⟩] scope pos) 0 it acc env).onRaise (fun x => do noteFrame x env; theTreesLotGoes x)) _ _ s
  refine wpAny_noted ?_
  rw [cturn3_0]
  refine wpAny_bind (wpAny_standAt (wpAny_bind (monoF (turn n s hI) (fun r s₁ h₁ => ?_))))
  cases r with
  | none => exact wpAny_pure h₁
  | some v =>
    refine wpAny_bind (monoF h₁ (fun _ s₁' h₁' => ?_))
    refine wpAny_bind (monoF h₁' (fun _ s₂ h₂ => wpAny_bind (monoF h₂ (fun ok s₃ h₃ => ?_))))
    cases ok with
    | false => exact wpAny_pure ⟨rfl, h₃⟩
    | true =>
      refine wpAny_bind (monoF h₃ (fun x s₄ h₄ => ?_))
      refine wpAny_bind (wpAny_standAt (wpAny_bind (wpAny_of_eq (hs x) (wpAny_bind (wpAny_holding (monoF h₄ (fun it1 s₅ h₅ => ?_)))))))
      refine wpAny_bind (wpAny_runOwn ?_)
      rw [Around.mark_none]
      refine codeAny_mono h₅ fun r s' hr => ?_
      cases r with
      | ok f =>
        first
          | exact wpAny_pure ⟨rfl, hr⟩
          | exact wpAny_bind (wpAny_pure (wpAny_pure ⟨rfl, hr⟩))
      | error e => exact hr.elim
theorem cturn3_1 (elt t0 i0 t1 i1 t2 i2 : Expr) (ifs0 ifs1 ifs2 : List Expr) (scope : Scope) (pos : Pos) (it acc : Value) (env : Env) :
    compTurn (.ListComp elt [⟨t0, i0, ifs0, 0⟩, ⟨t1, i1, ifs1, 0⟩, ⟨t2, i2, ifs2, 0⟩] scope pos) 1 it acc env = (do
      standAt i1.pos
      match ← pyNext it with
      | none => pure (.done .next)
      | some v =>
        letOwnedTupleGo t1 it v
        assign t1 env v
        let mut ok := true
        for c in ifs1 do
          if ok then ok ← isTrue c env (eval c env)
        if ok then
          let x ← eval i2 env
          standAt i2.pos
          let x ← foldedSetIterable i2 env x
          let _ ← runOwn (.compStart (.ListComp elt [⟨t0, i0, ifs0, 0⟩, ⟨t1, i1, ifs1, 0⟩, ⟨t2, i2, ifs2, 0⟩] scope pos) 2 (← holding [x] (pyIter x)) acc env) env
        again (.compLoop (.ListComp elt [⟨t0, i0, ifs0, 0⟩, ⟨t1, i1, ifs1, 0⟩, ⟨t2, i2, ifs2, 0⟩] scope pos) 1 it acc env)) := by rfl
theorem turnW3_1 {prog : Program} {w : World} {A : Around} {elt t0 i0 t1 i1 t2 i2 : Expr} {ifs0 ifs1 ifs2 : List Expr} {scope : Scope} {pos : Pos} {acc : Value} {env : Env} (hs : ∀ x, foldedSetIterable i2 env x = pure x) :
    TurnW prog w A (.ListComp elt [⟨t0, i0, ifs0, 0⟩, ⟨t1, i1, ifs1, 0⟩, ⟨t2, i2, ifs2, 0⟩] scope pos) 1 t1 ifs1 acc env (nextW prog w A (.ListComp elt [⟨t0, i0, ifs0, 0⟩, ⟨t1, i1, ifs1, 0⟩, ⟨t2, i2, ifs2, 0⟩] scope pos) 2 i2 acc env) := by
  intro R s it I turn n h
  refine codeAny_loop rfl I (fun n s hI => ?_) n h
  show wpAny _ A ((compTurn (.ListComp elt [⟨t0, i0, ifs0, 0⟩, ⟨t1, i1, ifs1, 0⟩, ⟨t2, i2, ifs2, 0⟩] scope pos) 1 it acc env).onRaise (fun x => do noteFrame x env; theTreesLotGoes x)) _ _ s
  refine wpAny_noted ?_
  rw [cturn3_1]
  refine wpAny_bind (wpAny_standAt (wpAny_bind (monoF (turn n s hI) (fun r s₁ h₁ => ?_))))
  cases r with
  | none => exact wpAny_pure h₁
  | some v =>
    refine wpAny_bind (monoF h₁ (fun _ s₁' h₁' => ?_))
    refine wpAny_bind (monoF h₁' (fun _ s₂ h₂ => wpAny_bind (monoF h₂ (fun ok s₃ h₃ => ?_))))
    cases ok with
    | false => exact wpAny_pure ⟨rfl, h₃⟩
    | true =>
      refine wpAny_bind (monoF h₃ (fun x s₄ h₄ => ?_))
      refine wpAny_bind (wpAny_standAt (wpAny_bind (wpAny_of_eq (hs x) (wpAny_bind (wpAny_holding (monoF h₄ (fun it1 s₅ h₅ => ?_)))))))
      refine wpAny_bind (wpAny_runOwn ?_)
      rw [Around.mark_none]
      refine codeAny_mono h₅ fun r s' hr => ?_
      cases r with
      | ok f =>
        first
          | exact wpAny_pure ⟨rfl, hr⟩
          | exact wpAny_bind (wpAny_pure (wpAny_pure ⟨rfl, hr⟩))
      | error e => exact hr.elim
theorem startW3_1 {prog : Program} {w : World} {A : Around} {elt t0 i0 t1 i1 t2 i2 : Expr} {ifs0 ifs1 ifs2 : List Expr} {scope : Scope} {pos : Pos} {acc : Value} {env : Env} : StartW prog w A (.ListComp elt [⟨t0, i0, ifs0, 0⟩, ⟨t1, i1, ifs1, 0⟩, ⟨t2, i2, ifs2, 0⟩] scope pos) 1 acc env := by
  intro R s it h0 h
  refine codeAny_of_tree ?_
  show wpAny _ _ ((compStart (.ListComp elt [⟨t0, i0, ifs0, 0⟩, ⟨t1, i1, ifs1, 0⟩, ⟨t2, i2, ifs2, 0⟩] scope pos) 1 it acc env).onRaise (fun x => do noteFrame x env; standAt theWindowsPlace)) _ _ s
  refine wpAny_notedAt ?_
  unfold compStart
  show wpAny _ _ (ask >>= _) _ _ s
  refine wpAny_bind (wpAny_askSetting (wpAny_ite ?_))
  split
  · first
      | exact wpAny_bind (wpAny_pure (wpAny_pure (And.intro rfl h0)))
      | exact wpAny_pure (And.intro rfl h0)
  · first
      | exact wpAny_bind (wpAny_rule (wpAny_bind (wpAny_standAt (wpAny_bind (wpAny_mono h (fun it' s' h' => wpAny_pure (And.intro rfl h')) fun _ _ x => x)))))
      | (refine wpAny_bind (wpAny_rule ?_); show wpAny _ _ (standAt i1.pos >>= _) _ _ s; exact wpAny_bind (wpAny_standAt (wpAny_bind (wpAny_mono h (fun it' s' h' => wpAny_pure (And.intro rfl h')) fun _ _ x => x))))
theorem cturn3_2 (elt t0 i0 t1 i1 t2 i2 : Expr) (ifs0 ifs1 ifs2 : List Expr) (scope : Scope) (pos : Pos) (it acc : Value) (env : Env) :
    compTurn (.ListComp elt [⟨t0, i0, ifs0, 0⟩, ⟨t1, i1, ifs1, 0⟩, ⟨t2, i2, ifs2, 0⟩] scope pos) 2 it acc env = (do
      standAt i2.pos
      match ← pyNext it with
      | none => pure (.done .next)
      | some v =>
        letOwnedTupleGo t2 it v
        assign t2 env v
        let mut ok := true
        for c in ifs2 do
          if ok then ok ← isTrue c env (eval c env)
        if ok then
          (do let _ ← call (.builtin "list.append") [acc, ← eval elt env])
        again (.compLoop (.ListComp elt [⟨t0, i0, ifs0, 0⟩, ⟨t1, i1, ifs1, 0⟩, ⟨t2, i2, ifs2, 0⟩] scope pos) 2 it acc env)) := by rfl
theorem turnW3_2 {prog : Program} {w : World} {A : Around} {elt t0 i0 t1 i1 t2 i2 : Expr} {ifs0 ifs1 ifs2 : List Expr} {scope : Scope} {pos : Pos} {acc : Value} {env : Env} :
    TurnW prog w A (.ListComp elt [⟨t0, i0, ifs0, 0⟩, ⟨t1, i1, ifs1, 0⟩, ⟨t2, i2, ifs2, 0⟩] scope pos) 2 t2 ifs2 acc env (lastW prog w A elt acc env) := by
  intro R s it I turn n h
  refine codeAny_loop rfl I (fun n s hI => ?_) n h
  show wpAny _ A ((compTurn (.ListComp elt [⟨t0, i0, ifs0, 0⟩, ⟨t1, i1, ifs1, 0⟩, ⟨t2, i2, ifs2, 0⟩] scope pos) 2 it acc env).onRaise (fun x => do noteFrame x env; theTreesLotGoes x)) _ _ s
  refine wpAny_noted ?_
  rw [cturn3_2]
  refine wpAny_bind (wpAny_standAt (wpAny_bind (monoF (turn n s hI) (fun r s₁ h₁ => ?_))))
  cases r with
  | none => exact wpAny_pure h₁
  | some v =>
    refine wpAny_bind (monoF h₁ (fun _ s₁' h₁' => ?_))
    refine wpAny_bind (monoF h₁' (fun _ s₂ h₂ => wpAny_bind (monoF h₂ (fun ok s₃ h₃ => ?_))))
    cases ok with
    | false => exact wpAny_pure ⟨rfl, h₃⟩
    | true =>
      exact wpAny_bind (wpAny_bind (monoF h₃ (fun x s₄ h₄ => wpAny_bind (monoF h₄ (fun _ s₅ h₅ => wpAny_pure (wpAny_pure ⟨rfl, h₅⟩))))))
theorem startW3_2 {prog : Program} {w : World} {A : Around} {elt t0 i0 t1 i1 t2 i2 : Expr} {ifs0 ifs1 ifs2 : List Expr} {scope : Scope} {pos : Pos} {acc : Value} {env : Env} : StartW prog w A (.ListComp elt [⟨t0, i0, ifs0, 0⟩, ⟨t1, i1, ifs1, 0⟩, ⟨t2, i2, ifs2, 0⟩] scope pos) 2 acc env := by
  intro R s it h0 h
  refine codeAny_of_tree ?_
  show wpAny _ _ ((compStart (.ListComp elt [⟨t0, i0, ifs0, 0⟩, ⟨t1, i1, ifs1, 0⟩, ⟨t2, i2, ifs2, 0⟩] scope pos) 2 it acc env).onRaise (fun x => do noteFrame x env; standAt theWindowsPlace)) _ _ s
  refine wpAny_notedAt ?_
  unfold compStart
  show wpAny _ _ (ask >>= _) _ _ s
  refine wpAny_bind (wpAny_askSetting (wpAny_ite ?_))
  split
  · first
      | exact wpAny_bind (wpAny_pure (wpAny_pure (And.intro rfl h0)))
      | exact wpAny_pure (And.intro rfl h0)
  · first
      | exact wpAny_bind (wpAny_rule (wpAny_bind (wpAny_standAt (wpAny_bind (wpAny_mono h (fun it' s' h' => wpAny_pure (And.intro rfl h')) fun _ _ x => x)))))
      | (refine wpAny_bind (wpAny_rule ?_); show wpAny _ _ (standAt i2.pos >>= _) _ _ s; exact wpAny_bind (wpAny_standAt (wpAny_bind (wpAny_mono h (fun it' s' h' => wpAny_pure (And.intro rfl h')) fun _ _ x => x))))
/-- a body keeps what is known but for the slots vs -/
def BodyOk (Y : Cx) (b : BW) (vs : List Nat) (tb : BT) : Prop := ∀ (pins : List (Addr × Obj)) (s : Shared) (σ : L2.St) (H : Hp) (Nx : Hp → Prop), Inv Y pins σ H s → tb σ H Nx → b (fun s' => ∃ H', Inv Y pins (wipe σ vs) H' s' ∧ Nx H') s
/-- an item more -/
def tLast (te : TE) (D : Addr) : BT := fun σ H Nx => te σ H fun y H1 => ∃ acc, H1 D = some (.lst acc) ∧ acc.length < sizeLine ∧ Nx (upd H1 D (.lst (acc ++ [y])))
theorem last_ok {Y : Cx} {elt : Expr} {te : TE} {D : Addr} {env : Env} (he : PE Y elt te) (henv : Y.env = env) (hx : Y.xe = fun _ _ => False) : BodyOk Y (lastW Y.prog Y.w Y.A elt (.ref D) env) [] (tLast te D) := by
  subst henv
  intro pins s σ H Nx I h
  have hr := he.run pins s σ H _ I h
  rw [hx] at hr
  refine wpAny_mono hr (fun v s1 ⟨y, H1, I1, r, acc, hD, hz, q⟩ => ?_) fun _ _ z => z
  exact app_ok I1 hD hz r fun s' I' => ⟨_, I', q⟩
def tCl (wi : TI) (g : TG) (tt : TT) (tb : BT) (vs : List Nat) : BT := fun σ H Nx => wi σ H fun J H4 => ∃ W1 : Nat → Nat → Hp → Prop, (∃ m, W1 0 m H4) ∧ ∀ j k H, W1 j k H →
  (J.stop j H ∧ Nx H) ∨ (J.go j H ∧ ∃ Nx1 : Hp → Prop, (∀ H', Nx1 H' → ∃ k', k' < k ∧ W1 (j + 1) k' H') ∧ ∀ x H', J.yld j H x H' → g x (wipe σ vs) H' fun σ3 H5 => wipe σ3 vs = wipe σ vs ∧ tt σ3 H5 fun b H6 =>
    if b = true then tb σ3 H6 Nx1 else Nx1 H6)
theorem wipe_mono {σ : L2.St} {vs ws : List Nat} (h : ∀ i ∈ ws, i ∈ vs) {j : Nat} {v : V} (e : (wipe σ vs)[j]? = some (some v)) : (wipe σ ws)[j]? = some (some v) := by
  obtain ⟨e1, e2⟩ := wipe_some e
  rw [wipe_out fun z => e2 (h j z)]
  exact e1
theorem clause_ok {Y : Cx} {cmp t i : Expr} {ifs : List Expr} {idx : Nat} {D : Addr} {b : BW} {vs ws : List Nat} {tb : BT} {wi : TI} {g : TG} {tt : TT} {env : Env} (hc : Y.calm = true) (henv : Y.env = env) (hx : Y.xe = fun _ _ => False) (hi : PI Y t i wi) (hg : PG Y t g) (ht : PTs Y ifs tt) (hb : BodyOk Y b ws tb) (hw : ∀ i ∈ ws, i ∈ vs)
    (hm : ∀ (P P' : Shared → Prop) (s : Shared), b P s → (∀ s, P s → P' s) → b P' s)
    (tu : TurnW Y.prog Y.w Y.A cmp idx t ifs (.ref D) env b) (st : StartW Y.prog Y.w Y.A cmp idx (.ref D) env) : BodyOk Y (nextW Y.prog Y.w Y.A cmp idx i (.ref D) env) vs (tCl wi g tt tb vs) := by
  subst henv
  intro pins s σ H Nx I h
  have hr := hi.run pins s σ H _ I h
  rw [hx] at hr
  refine wpAny_mono hr (fun xv s1 hx1 => ?_) fun _ _ z => z
  refine wpAny_mono hx1 (fun itv s2 h2 => ?_) fun _ _ z => z
  obtain ⟨it, fp, tn, J, H2, e, I2, T, st2, f2, W1, ⟨m1, w1⟩, turn1⟩ := h2
  subst e
  have stat : ∀ {H' : Hp}, (∀ b ∈ fp, H' b = none) → ∀ b ∈ fp, FpOk Y pins H' b := fun hn b hb => ⟨hn b hb, (f2 b hb).2⟩
  have loop1 : codeAny (model Y.prog Y.w) Y.A (.compLoop cmp idx (.ref it) (.ref D) Y.env) (fun r s' => match r with
      | .ok _ => ∃ H', Inv Y pins (wipe σ vs) H' s' ∧ Nx H'
      | .error _ => False) s2 := by
    refine tu _ _ _ (fun k s' => ∃ j H', Inv Y pins (wipe σ vs) H' s' ∧ tn j s'.heap ∧ (∀ b ∈ fp, H' b = none) ∧ W1 j k H') ?_ m1 ⟨0, H2, I2.weak (wipe_length _ _) (fun j v e => (wipe_some e).1), st2, fun b hb => (f2 b hb).1, w1⟩
    rintro k s12 ⟨j, H12, I12, st12, n12, w12⟩
    rcases turn1 j k H12 w12 with ⟨stop1, nx1⟩ | ⟨go1, Nx1, hNx1, step1⟩
    · refine thnF (T.done Y rfl rfl rfl hc j _ s12 (wipe σ vs) H12 (fun _ _ => False) I12 (stat n12) st12 stop1) fun r s13 ⟨hr, I13⟩ => ?_
      subst hr
      exact ⟨H12, I13, nx1⟩
    · refine thnF (T.item Y rfl rfl rfl hc j _ s12 (wipe σ vs) H12 (fun _ _ => False) I12 (stat n12) st12 go1) fun r s13 ⟨u1, hr, h13⟩ => ?_
      subst hr
      refine thnF h13 fun _ s14 ⟨x1, H14, I14, r14, y14, st14, n14⟩ => ?_
      have I14' := I14.pinned (stat n14) (T.obj _ _ st14)
      have hpg := hg.run _ s14 (wipe σ vs) H14 x1 u1 _ I14' r14 (step1 x1 H14 y14)
      rw [hx] at hpg
      refine thnF hpg fun _ s15 ⟨σ15, H15, I15, hw15, q15⟩ => ?_
      have hpt := ht.run _ s15 σ15 H15 _ I15 q15
      rw [hx] at hpt
      refine thnF hpt fun b1 s16 ⟨H16, I16, q16⟩ => ?_
      have fin1 : ∀ {s' : Shared} {H' : Hp} {σ' : L2.St}, Inv Y (pins ++ pinsAt fp s14.heap) σ' H' s' → (wipe σ vs).length = σ'.length → (∀ (j : Nat) v, (wipe σ vs)[j]? = some (some v) → σ'[j]? = some (some v)) → Nx1 H' → ∃ m, m < k ∧ ∃ j H', Inv Y pins (wipe σ vs) H' s' ∧ tn j s'.heap ∧ (∀ b ∈ fp, H' b = none) ∧ W1 j m H' := fun {s' H' σ'} I' hl hk nx => by
        obtain ⟨m', hm, w'⟩ := hNx1 H' nx
        have pin' : ∀ b ∈ fp, ∀ o, s14.heap.get? b = some o → s'.heap.get? b = some o ∧ H' b = none := fun b hb o e =>
          let z := I'.pin (b, o) (List.mem_append_right _ (List.mem_append_right _ (mem_pinsAt hb e)))
          ⟨z.1, z.2.1⟩
        refine ⟨m', hm, j + 1, H', I'.unpinned.weak hl hk, T.keep _ _ _ st14 fun b hb o e => (pin' b hb o e).1, fun b hb => ?_, w'⟩
        obtain ⟨o, e, _⟩ := T.obj _ _ st14 b hb
        exact (pin' b hb o e).2
      have hl15 : (wipe σ vs).length = σ15.length := by rw [← hw15, wipe_length]
      cases b1 with
      | false =>
        simp only [Bool.false_eq_true, if_false] at q16 ⊢
        exact fin1 I16 hl15 (fun j v e => by rw [← hw15] at e; exact (wipe_some e).1) q16
      | true =>
        simp only [if_true] at q16 ⊢
        refine hm _ _ _ (hb _ s16 σ15 H16 _ I16 q16) fun s17 ⟨H17, I17, nx⟩ => ?_
        refine fin1 I17 (hl15.trans (wipe_length σ15 ws).symm) (fun j v e => ?_) nx
        rw [← hw15] at e
        exact wipe_mono hw e
  refine st _ _ _ loop1 ?_
  exact T.self Y.A 0 s2 (fun it' s' => codeAny (model Y.prog Y.w) Y.A (.compLoop cmp idx it' (.ref D) Y.env) (fun r s' => match r with
      | .ok _ => ∃ H', Inv Y pins (wipe σ vs) H' s' ∧ Nx H'
      | .error _ => False) s') _ st2 loop1
theorem next_mono {prog : Program} {w : World} {A : Around} {cmp : Expr} {idx : Nat} {i : Expr} {acc : Value} {env : Env} (P P' : Shared → Prop) (s : Shared) (h : nextW prog w A cmp idx i acc env P s) (hP : ∀ s, P s → P' s) : nextW prog w A cmp idx i acc env P' s :=
  wpAny_mono h (fun _ _ h => wpAny_mono h (fun _ _ h => codeAny_mono h fun r s' hr => by
    cases r with
    | ok f => exact hP _ hr
    | error e => exact hr) fun _ _ z => z) fun _ _ z => z
theorem lastW_mono {prog : Program} {w : World} {A : Around} {elt : Expr} {acc : Value} {env : Env} (P P' : Shared → Prop) (s : Shared) (h : lastW prog w A elt acc env P s) (hP : ∀ s, P s → P' s) : lastW prog w A elt acc env P' s :=
  wpAny_mono h (fun _ _ h => wpAny_mono h (fun _ s h => hP s h) fun _ _ z => z) fun _ _ z => z
section
variable {X : Cx}
/-- the first clause -/
def tLcN (wi : TI) (g : TG) (tt : TT) (tb : Addr → BT) (vs : List Nat) : TE := fun σ H Q => wi σ H fun J H1 => ∀ D, H1 D = none → ∃ W : Nat → Nat → Hp → Prop, (∃ m, W 0 m (upd H1 D (.lst []))) ∧ ∀ i m H, W i m H →
  (J.stop i H ∧ Q (.ref D) H) ∨ (J.go i H ∧ ∃ Nx : Hp → Prop, (∀ H', Nx H' → ∃ m', m' < m ∧ W (i + 1) m' H') ∧ ∀ x H', J.yld i H x H' → g x (wipe σ vs) H' fun σ2 H2 => wipe σ2 vs = wipe σ vs ∧ tt σ2 H2 fun b H3 =>
    if b = true then tb D σ2 H3 Nx else Nx H3)
theorem lcN_core {pins : List (Addr × Obj)} {s : Shared} {σ : L2.St} {H : Hp} {Q : VK} {elt tg iter : Expr} {ifs : List Expr} {cls : List Comprehension} {scope : Scope} {own : List (Str × Nat)} {ws : List Nat} {pos pos' : Pos} {wi : TI} {g : TG} {tt : TT} {tb : Addr → BT} {bb : Env → Value → BW} {use : Option (Value → PySem.Sem Unit)} {Qf : Value → Shared → Prop} {cmp : Expr}
    (hcmp : cmp = .ListComp elt (⟨tg, iter, ifs, 0⟩ :: cls) scope pos) (hc : X.calm = true) (hN : X.N.Nodup) (I : Inv X pins σ H s) (hi : PI X tg iter wi) (ok : BlkOk X.N X.env.scope scope own) (hv : ∀ i ∈ ws, i ∈ own.map (·.2))
    (hg : ∀ (s : Shared) (H : Hp) (C : Addr) (cl : List (Str × Addr)) (fp : List Addr), PG (X.blk s H scope (compEnvC scope cl C X.env) fp) tg g) (ht : ∀ (s : Shared) (H : Hp) (C : Addr) (cl : List (Str × Addr)) (fp : List Addr), PTs (X.blk s H scope (compEnvC scope cl C X.env) fp) ifs tt)
    (hb : ∀ (s : Shared) (H : Hp) (C : Addr) (cl : List (Str × Addr)) (fp : List Addr) (D : Addr), BodyOk (X.blk s H scope (compEnvC scope cl C X.env) fp) (bb (compEnvC scope cl C X.env) (.ref D)) ws (tb D)) (hs : ∀ x, foldedSetIterable iter X.env x = pure x)
    (hm : ∀ env acc (P P' : Shared → Prop) (s : Shared), bb env acc P s → (∀ s, P s → P' s) → bb env acc P' s)
    (htu : ∀ env D, TurnW X.prog X.w X.A cmp 0 tg ifs (.ref D) env (bb env (.ref D)))
    (h : tLcN wi g tt tb (own.map (·.2)) σ H Q)
    (hRR : ∀ D C s' m H', Inv X pins σ H' s' → Q (.ref D) H' → s'.heap.Ns C m → FpOk X pins H' C → compPost (model X.prog X.w) X.A X.xe use Qf (.ref D) C (.ok .next) s') :
    wpAny (model X.prog X.w) X.A (comprehension cmp scope X.env pos' (newList []) false (eval iter X.env) use) Qf X.xe s := by
  have hfree : ∀ y ∈ scope.names, y.2 = .free → ∃ c, X.env.cells.lookup y.1 = some c := fun y hy e => by
    rcases ok.free y hy e with k | k
    · exact I.ok.has _ (.inl k)
    · exact I.ok.has _ (.inr k)
  subst hcmp
  refine wpAny_comprehension_free (use := use) rfl hs (closure_ok hfree) ok.kind (fun y hy e => by rw [ok.uniq y hy, e])
    (thn (hi.run pins s σ H _ I h) fun xv s1 hx => thn hx fun itv s2 h2 => ?_)
  obtain ⟨it, fp, tn, J, H2, e, I2, T, st2, f2, q⟩ := h2
  subst e
  refine wpAny_newObj_type (newEnv_comp ?_) (by show 0 ≤ sizeLine; decide)
  generalize hD : s2.heap.objs.size = D
  have hDn : H2 D = none := I2.hok.fresh (Nat.le_of_eq hD)
  obtain ⟨W, ⟨m0, w0⟩, turn⟩ := q D hDn
  -- the new list
  generalize hs3 : ({ s2 with heap := s2.heap.push { cls := .type "list", data := .seq ([] : List Value).toArray } } : Shared) = s3
  have I3 : Inv X pins σ (upd H2 D (.lst [])) s3 := by
    rw [← hs3]
    refine I2.laid (t' := s2.toks) (fun b o e => Heap.get?_push_of_some _ e) (Nat.le_of_eq hD) ⟨Nat.zero_le _, [], 0, .nil, ?_⟩
    rw [← hD]
    exact Heap.get?_push_size _ rfl
  have h3 : s3.heap = s2.heap.push { cls := .type "list", data := .seq ([] : List Value).toArray } := by rw [← hs3]
  have sz : ∀ b ∈ fp, b < s2.heap.objs.size := fun b hb => by
    obtain ⟨o, e, _⟩ := T.obj _ _ st2 b hb
    exact Heap.lt_size e
  have f3 : ∀ b ∈ fp, FpOk X pins (upd H2 D (.lst [])) b ∧ b < s3.heap.objs.size := fun b hb => by
    have hlt := sz b hb
    refine ⟨⟨?_, (f2 b hb).2⟩, by rw [h3, Heap.size_push]; exact Nat.lt_succ_of_lt hlt⟩
    rw [upd_ne (by rw [← hD]; exact Nat.ne_of_lt hlt)]
    exact (f2 b hb).1
  have st3 : tn 0 s3.heap := T.keep _ _ _ st2 fun b _ o e => by rw [h3]; exact Heap.get?_push_of_some _ e
  have I4 := block_start I3 ok hN f3
  have pg := hg s3 (upd H2 D (.lst [])) s3.heap.objs.size (cellsFrom (s3.heap.objs.size + 1) scope.names (cloFrom X.env.cells scope.names [])) fp
  have pb := hb s3 (upd H2 D (.lst [])) s3.heap.objs.size (cellsFrom (s3.heap.objs.size + 1) scope.names (cloFrom X.env.cells scope.names [])) fp D
  have tu := htu (compEnvC scope (cellsFrom (s3.heap.objs.size + 1) scope.names (cloFrom X.env.cells scope.names [])) s3.heap.objs.size X.env) D
  have pt := ht s3 (upd H2 D (.lst [])) s3.heap.objs.size (cellsFrom (s3.heap.objs.size + 1) scope.names (cloFrom X.env.cells scope.names [])) fp
  show codeAny _ _ (.compStart (.ListComp elt (⟨tg, iter, ifs, 0⟩ :: cls) scope pos) 0 (.ref it) (.ref D) (compEnvC scope (cellsFrom (s3.heap.objs.size + 1) scope.names (cloFrom X.env.cells scope.names [])) s3.heap.objs.size X.env)) (compPost (model X.prog X.w) X.A X.xe use Qf (.ref D) s3.heap.objs.size) { s3 with heap := pushCells (s3.heap.push { cls := .type "dict", data := .dict #[] }) scope.names }
  have nfp : ∀ b ∈ fp, (upd H2 D (.lst [])) b = none := fun b hb => (f3 b hb).1.1
  generalize hce : compEnvC scope (cellsFrom (s3.heap.objs.size + 1) scope.names (cloFrom X.env.cells scope.names [])) s3.heap.objs.size X.env = ce at I4 pg pt pb tu ⊢
  have cL : ce.locals = s3.heap.objs.size := by subst hce; rfl
  generalize hH3 : upd H2 D (.lst []) = H3 at I3 I4 pg pt pb w0 nfp f3
  generalize hs4 : ({ s3 with heap := pushCells (s3.heap.push { cls := .type "dict", data := .dict #[] }) scope.names } : Shared) = s4 at I4 ⊢
  have st4 : tn 0 s4.heap := T.keep _ _ _ st3 fun b _ o e => by rw [← hs4]; exact pushCells_keeps _ _ _ _ (Heap.get?_push_of_some _ e)
  have stat : ∀ {σ' : L2.St} {H' : Hp} {s' : Shared}, Inv (X.blk s3 H3 scope ce fp) [] σ' H' s' → (∀ b ∈ fp, H' b = none) → ∀ b ∈ fp, FpOk (X.blk s3 H3 scope ce fp) [] H' b := fun {σ' H' s'} I' hn b hb =>
    ⟨hn b hb, (I'.ok.exf b hb).1, I'.ok.exfs b hb, .inl hb, fun x c e => (I'.ok.exf b hb).2 x c e, fun p hp => absurd (show p ∈ ([] : List (Addr × Obj)) ++ [] from hp) (by simp)⟩
  have loop : codeAny (model X.prog X.w) X.A (.compLoop (.ListComp elt (⟨tg, iter, ifs, 0⟩ :: cls) scope pos) 0 (.ref it) (.ref D) ce) (compPost (model X.prog X.w) X.A X.xe use Qf (.ref D) s3.heap.objs.size) s4 := by
    refine tu _ _ _ (fun n s' => ∃ i H', Inv (X.blk s3 H3 scope ce fp) [] (wipe σ (own.map (·.2))) H' s' ∧ tn i s'.heap ∧ (∀ b ∈ fp, H' b = none) ∧ W i n H') ?_ m0 ⟨0, H3, I4, st4, nfp, w0⟩
    rintro n s5 ⟨i, H5, I5, st5, n5, w5⟩
    rcases turn i n H5 w5 with ⟨stop, qq⟩ | ⟨go, Nx, hNx, step⟩
    · have td := T.done (X.blk s3 H3 scope ce fp) rfl rfl rfl hc i [] s5 _ H5 (fun _ _ => False) I5 (stat I5 n5) st5 stop
      refine thnF td fun r s6 ⟨hr, I6⟩ => ?_
      subst hr
      -- back in the def's context
      have I7 : Inv X pins σ H5 s6 := I3.call' (ch := fp) I6.os I6.base I6.hok I6.bare fun b hb => ⟨(f3 b hb).1.2.2.2.1, (f3 b hb).1.2.1, (f3 b hb).1.2.2.2.2.1, (f3 b hb).1.2.2.2.2.2⟩
      have nC : H5 s3.heap.objs.size = none := by
        have z : H5 ce.locals = none := I6.free
        rw [cL] at z
        exact z
      obtain ⟨m, hn, _⟩ := I6.loc
      have hn : s6.heap.Ns ce.locals m := hn
      rw [cL] at hn
      exact hRR D s3.heap.objs.size s6 m H5 I7 qq hn (I3.fpOk (Nat.le_refl _) nC)
    · have ti := T.item (X.blk s3 H3 scope ce fp) rfl rfl rfl hc i [] s5 _ H5 (fun _ _ => False) I5 (stat I5 n5) st5 go
      refine thnF ti fun r s6 ⟨u, hr, h6⟩ => ?_
      subst hr
      refine thnF h6 fun _ s7 ⟨x, H7, I7, r7, y7, st7, n7⟩ => ?_
      have I7' := I7.pinned (stat I7 n7) (T.obj _ _ st7)
      refine thnF (pg.run _ s7 _ H7 x u _ I7' r7 (step x H7 y7)) fun _ s8 ⟨σ8, H8, I8, hw8, q8⟩ => ?_
      refine thnF (pt.run _ s8 σ8 H8 _ I8 q8) fun b s9 ⟨H9, I9, q9⟩ => ?_
      -- the turn's end, from any slots that know what the block knew at its start
      have fin : ∀ {σ9 : L2.St} {s' : Shared} {H' : Hp}, Inv (X.blk s3 H3 scope ce fp) ([] ++ pinsAt fp s7.heap) σ9 H' s' → (wipe σ (own.map (·.2))).length = σ9.length → (∀ (j : Nat) v, (wipe σ (own.map (·.2)))[j]? = some (some v) → σ9[j]? = some (some v)) → Nx H' →
          ∃ m, m < n ∧ ∃ i H', Inv (X.blk s3 H3 scope ce fp) [] (wipe σ (own.map (·.2))) H' s' ∧ tn i s'.heap ∧ (∀ b ∈ fp, H' b = none) ∧ W i m H' := fun {σ9 s' H'} I' hl hk nx => by
        obtain ⟨m', hm, w'⟩ := hNx H' nx
        have pin' : ∀ b ∈ fp, ∀ o, s7.heap.get? b = some o → s'.heap.get? b = some o ∧ H' b = none := fun b hb o e =>
          let z := I'.pin (b, o) (List.mem_append_right _ (List.mem_append_right _ (mem_pinsAt hb e)))
          ⟨z.1, z.2.1⟩
        refine ⟨m', hm, i + 1, H', (I'.unpinned (pins := [])).weak hl hk, T.keep _ _ _ st7 fun b hb o e => (pin' b hb o e).1, fun b hb => ?_, w'⟩
        obtain ⟨o, e, _⟩ := T.obj _ _ st7 b hb
        exact (pin' b hb o e).2
      have hl8 : (wipe σ (own.map (·.2))).length = σ8.length := by rw [← hw8, wipe_length]
      have hk8 : ∀ (j : Nat) v, (wipe σ (own.map (·.2)))[j]? = some (some v) → σ8[j]? = some (some v) := fun j v e => by
        rw [← hw8] at e
        exact (wipe_some e).1
      have hk9 : ∀ (j : Nat) v, (wipe σ (own.map (·.2)))[j]? = some (some v) → (wipe σ8 ws)[j]? = some (some v) := fun j v e => by
        rw [← hw8] at e
        obtain ⟨e1, e2⟩ := wipe_some e
        rw [wipe_out fun z => e2 (hv j z)]
        exact e1
      cases b with
      | false =>
        simp only [Bool.false_eq_true, if_false] at q9 ⊢
        exact fin I9 hl8 hk8 q9
      | true =>
        simp only [if_true] at q9 ⊢
        refine hm _ _ _ _ _ (pb _ s9 σ8 H9 _ I9 q9) fun s10 ⟨H10, I10, nx⟩ => ?_
        exact fin I10 (hl8.trans (wipe_length σ8 ws).symm) hk9 nx
  exact codeAny_compStart_list loop (T.self X.A 0 _ _ _ st4 loop)
end
end Mi
set_option Elab.async false
set_option linter.all false
set_option maxRecDepth 100000
set_option maxHeartbeats 4000000
/-! Mn: comprehensions of more clauses, dicts with keys of any depth, copies: in the small language. -/
namespace Mi
open PySem PySem.Spec PyProof.Rows L2 RZ
/-- what a body of a clause is to reach -/
def postB (K : PySem.W.Frag) (mg : Str → Option Value) (T : TW) (D : Addr) (ι Z : List Addr) (H : Hp) (r : Option (List Mi.D × List Mo)) (Nx : Hp → Prop) : Prop := match r with
  | none => False
  | some (acc, μ) => ∀ ι' H' av, Ext ι [D] H ι' H' → RG K mg T ι' (D :: Z) H' μ → H' D = some (.lst av) → Rps K mg ι' (D :: Z) H' acc av → Nx H'
def tB (K : PySem.W.Frag) (mg : Str → Option Value) (T : TW) (f : List Sl → List Mi.D → List Mo → Option (List Mi.D × List Mo)) (D : Addr) : BT := fun σ H Nx =>
  ∃ ι Z Zf μ δ acc av, RG K mg T ι (D :: Z) H μ ∧ SR K mg ι (D :: Z) Zf H δ σ ∧ D ∉ Zf ∧ H D = some (.lst av) ∧ Rps K mg ι (D :: Z) H acc av ∧ postB K mg T D ι Z H (f δ acc μ) Nx
section
variable {K : PySem.W.Frag} {mg : Str → Option Value} {T : TW} {ι Z Zf ι' : List Addr} {H H' : Hp} {μ : List Mo} {δ : List Sl} {σ : L2.St} {D : Addr}
theorem SR.extD (g : RG K mg T ι (D :: Z) H μ) (s : SR K mg ι (D :: Z) Zf H δ σ) (hD : D ∉ Zf) (e : Ext ι [D] H ι' H') : SR K mg ι' (D :: Z) Zf H' δ σ := by
  refine ⟨s.len, fun i x hx => ?_, s.apart, s.sub⟩
  have h := s.ok i x hx
  have sub : ∀ z ∈ [D], z ∈ D :: Z := by simp
  cases x with
  | un => trivial
  | d x => obtain ⟨v, h1, h2⟩ := h; exact ⟨v, h1, Rp.ext e sub (fun z q => .inl q) x v h2⟩
  | lin xs =>
    obtain ⟨a, vs, h1, h2, h3, h4⟩ := h
    refine ⟨a, vs, h1, h2, e.keep a _ h3 (g.zl a (s.sub a h2)).2 (fun z => hD ?_) (fun _ z => by cases z), Rps.ext e sub (fun z q => .inl q) _ _ h4⟩
    rw [← List.mem_singleton.mp z]; exact h2
theorem postB.mono {r : Option (List Mi.D × List Mo)} {Nx : Hp → Prop} {ι1 : List Addr} {H1 : Hp} (h : postB K mg T D ι Z H r Nx) (e : Ext ι [D] H ι1 H1) : postB K mg T D ι1 Z H1 r Nx := by
  match r, h with
  | some (acc, μ), h => exact fun ι' H' av e' => h ι' H' av (e.trans e' fun z q => .inl q)
theorem Ext.up {ι Zf : List Addr} {H : Hp} {ι' : List Addr} {H' : Hp} (e : Ext ι [] H ι' H') : Ext ι Zf H ι' H' := e.mono (by simp)
end
section
variable {X : Cx} {T : TW} {W : WX} {pos : Pos}
theorem to_last {ce : E} {D : Addr} {σ : L2.St} {H : Hp} {Nx : Hp → Prop} (h : tB X.K X.mg T (oneL (ev ce)) D σ H Nx) : tLast (tE X.K X.mg T WF ce) D σ H Nx := by
  obtain ⟨ι, Z, Zf, μ, δ, acc, av, g, sr, hDZ, hD, ra, hp⟩ := h
  unfold oneL at hp
  cases h3 : noE (ev ce δ μ) with
  | none => rw [h3] at hp; exact hp.elim
  | some r =>
    obtain ⟨q, μ4⟩ := r
    rw [h3] at hp
    simp only [Option.bind_some] at hp
    split at hp
    · rename_i hl
      refine ⟨ι, D :: Z, Zf, μ, δ, g, sr, noE_post h3 fun ι6 y6 H6 e6 g6 r6 => ?_⟩
      have hD6 : H6 D = some (.lst av) := e6.keep D _ hD (g.zl D (List.mem_cons_self ..)).2 (by simp) (fun _ z => by cases z)
      have ra6 := ra.ext0 e6
      have eU := ext_updZ (ι := ι6) (ws := av ++ [y6]) hD6
      have sub : ∀ z ∈ [D], z ∈ D :: Z := by simp
      refine ⟨av, hD6, by rw [← ra.length]; exact hl, hp ι6 _ (av ++ [y6]) (e6.up.trans eU fun z q => .inl q) (g6.updZ (List.mem_cons_self ..) hD6) upd_same ?_⟩
      exact Rps.append (Rps.ext eU sub (fun z q => .inl q) _ _ ra6) ⟨y6, [], rfl, Rp.ext eU sub (fun z q => .inl q) _ _ r6, rfl⟩
    · exact hp.elim
theorem cl_it {J : L2.It} {n : Nat} {G : Hp → Prop} {Y : Nat → Hp → V → Hp → Prop} (w : L2.Walk J n G Y) {g : TG} {tt : TT} {tb : BT} {vs : List Nat} {σ : L2.St} {H4 : Hp} {Nx : Hp → Prop} (Pv : Nat → Hp → Prop) (h0 : Pv 0 H4) (hG : ∀ i H, i ≤ n → Pv i H → G H)
    (hs : ∀ i x H H', i < n → Pv i H → Y i H x H' → g x (wipe σ vs) H' fun σ2 H2 => wipe σ2 vs = wipe σ vs ∧ tt σ2 H2 fun b H3 => if b = true then tb σ2 H3 (Pv (i + 1)) else Pv (i + 1) H3) (hd : ∀ H, Pv n H → Nx H) :
    ∃ W1 : Nat → Nat → Hp → Prop, (∃ m, W1 0 m H4) ∧ ∀ j k H, W1 j k H →
      (J.stop j H ∧ Nx H) ∨ (J.go j H ∧ ∃ Nx1 : Hp → Prop, (∀ H', Nx1 H' → ∃ k', k' < k ∧ W1 (j + 1) k' H') ∧ ∀ x H', J.yld j H x H' → g x (wipe σ vs) H' fun σ3 H5 => wipe σ3 vs = wipe σ vs ∧ tt σ3 H5 fun b H6 =>
        if b = true then tb σ3 H6 Nx1 else Nx1 H6) := by
  refine ⟨fun i m H => m = n - i ∧ i ≤ n ∧ Pv i H, ⟨n, by simp, Nat.zero_le _, h0⟩, ?_⟩
  rintro i m H ⟨rfl, hi, p⟩
  have q := hG i H hi p
  by_cases hlt : i < n
  · refine .inr ⟨w.goes i H hlt q, Pv (i + 1), fun H' p' => ⟨n - (i + 1), by omega, rfl, hlt, p'⟩, fun x H' y => hs i x H H' hlt p (w.yields i H x H' hlt q y)⟩
  · have e : i = n := by omega
    subst e
    exact .inl ⟨w.stops H q, hd H p⟩
/-- a turn of a clause -/
theorem cl_turn {ct : Tg} {cc : E} {vs : List Nat} {f : List Sl → List Mi.D → List Mo → Option (List Mi.D × List Mo)} {D : Addr} (hsl : ∀ i ∈ ct.slots, i ∈ vs) {σ σv : L2.St} (hσv : σv = wipe σ vs) {ι Z Zf : List Addr} {H3 : Hp} {μ : List Mo} {δ : List Sl} {acc : List Mi.D} {av : List V} {d : Mi.D} {ds : List Mi.D} {x : V} {Nx1 : Hp → Prop} {Q : List Addr → Hp → Option (List Mi.D × List Mo) → Prop}
    (g : RG X.K X.mg T ι (D :: Z) H3 μ) (sr : SR X.K X.mg ι (D :: Z) Zf H3 δ σ) (hDZ : D ∉ Zf) (hD : H3 D = some (.lst av)) (ra : Rps X.K X.mg ι (D :: Z) H3 acc av) (rd : Rp X.K X.mg ι (D :: Z) H3 d x)
    (hq : Q ι H3 (clsL ct (ev cc) f (wipeS δ vs) (d :: ds) acc μ)) (hQ : ∀ ι H, ¬ Q ι H none)
    (hn : ∀ ι' H' acc' μ' av', Ext ι [D] H3 ι' H' → RG X.K X.mg T ι' (D :: Z) H' μ' → H' D = some (.lst av') → Rps X.K X.mg ι' (D :: Z) H' acc' av' → Q ι H3 (clsL ct (ev cc) f (wipeS δ vs) ds acc' μ') → Nx1 H') :
    gT X.K X.mg T ct x (wipe σ vs) H3 fun σ3 H5 => wipe σ3 vs = wipe σ vs ∧ tT X.K X.mg T WF cc σ3 H5 fun b H6 => if b = true then tB X.K X.mg T f D σ3 H6 Nx1 else Nx1 H6 := by
  unfold clsL at hq
  cases h1 : ct.put d (wipeS δ vs) with
  | none => rw [h1] at hq; exact absurd hq (hQ _ _)
  | some δ1 =>
    rw [h1] at hq
    simp only [Option.bind_some] at hq
    cases h2 : noE (ev cc δ1 μ) with
    | none => rw [h2] at hq; exact absurd hq (hQ _ _)
    | some r =>
      obtain ⟨k, μ3⟩ := r
      rw [h2] at hq
      simp only [Option.bind_some] at hq
      refine ⟨ι, D :: Z, Zf, wipeS δ vs, d, δ1, sr.wipe vs, rd, h1, fun σ2 sr4 hw => ⟨by rw [hw vs hsl]; exact wipe_wipe σ vs, ?_⟩⟩
      cases k with
      | bl k =>
        refine ⟨ι, D :: Z, Zf, μ, δ1, g, sr4, ?_⟩
        have h2' : noE (evT cc δ1 μ) = some (k, μ3) := by
          unfold evT
          match hq : ev cc δ1 μ, h2 with
          | some (.ok (.bl k'), μ'), h2 => simp only [noE, Option.some.injEq, Prod.mk.injEq, Mi.D.bl.injEq] at h2; obtain ⟨rfl, rfl⟩ := h2; rfl
        refine noE_post h2' fun ι5 b H5 e5 g5 hb => ?_
        subst hb
        have hD5 : H5 D = some (.lst av) := e5.keep D _ hD (g.zl D (List.mem_cons_self ..)).2 (by simp) (fun _ z => by cases z)
        cases k with
        | false => exact iteF (hn ι5 H5 acc μ3 av e5.up g5 hD5 (ra.ext0 e5) hq)
        | true =>
          simp only at hq
          refine iteT ⟨ι5, Z, Zf, μ3, δ1, acc, av, g5, sr4.ext g e5, hDZ, hD5, ra.ext0 e5, ?_⟩
          cases h3 : f δ1 acc μ3 with
          | none => rw [h3] at hq; exact absurd hq (hQ _ _)
          | some r =>
            obtain ⟨acc', μ4⟩ := r
            rw [h3] at hq
            exact fun ι' H' av' e' g' hD' r' => hn ι' H' acc' μ4 av' (e5.up.trans e' fun z q => .inl q) g' hD' r' hq
      | _ => exact absurd hq (hQ _ _)
theorem to_clause {ct : Tg} {ci : It} {cc : E} {vs : List Nat} {f : List Sl → List Mi.D → List Mo → Option (List Mi.D × List Mo)} {D : Addr} (hsl : ∀ i ∈ ct.slots, i ∈ vs) {σ : L2.St} {H : Hp} {Nx : Hp → Prop}
    (h : tB X.K X.mg T (fun δ acc μ => (noE (evi ci δ μ)).bind fun r => clsL ct (ev cc) f (wipeS δ vs) r.1 acc r.2) D σ H Nx) :
    tCl (tI X.K X.mg T WF ci) (gT X.K X.mg T ct) (tT X.K X.mg T WF cc) (tB X.K X.mg T f D) vs σ H Nx := by
  obtain ⟨ι, Z, Zf, μ, δ, acc, av, g, sr, hDZ, hD, ra, hp⟩ := h
  cases h3 : noE (evi ci δ μ) with
  | none => simp only [h3, Option.bind_none] at hp; exact hp.elim
  | some r =>
    obtain ⟨xs, μ1⟩ := r
    simp only [h3, Option.bind_some] at hp
    refine ⟨ι, D :: Z, Zf, μ, δ, g, sr, noE_post h3 fun ι1 J H1 e1 g1 wk => ?_⟩
    obtain ⟨G, Y, wlk, hG, hY⟩ := wk
    have sr1 := sr.ext g e1
    have hD1 : H1 D = some (.lst av) := e1.keep D _ hD (g.zl D (List.mem_cons_self ..)).2 (by simp) (fun _ z => by cases z)
    have ra1 := ra.ext0 e1
    have hp1 := hp.mono e1.up
    have sub : ∀ z ∈ [D], z ∈ D :: Z := by simp
    refine cl_it wlk (fun i H2 => ∃ ι2 μ2 acc2 av2, Ext ι1 [D] H1 ι2 H2 ∧ RG X.K X.mg T ι2 (D :: Z) H2 μ2 ∧ H2 D = some (.lst av2) ∧ Rps X.K X.mg ι2 (D :: Z) H2 acc2 av2 ∧ postB X.K X.mg T D ι1 Z H1 (clsL ct (ev cc) f (wipeS δ vs) (xs.drop i) acc2 μ2) Nx)
      ⟨ι1, μ1, acc, av, Ext.refl, g1, hD1, ra1, by simpa using hp1⟩ (fun i H2 _ ⟨ι2, μ2, acc2, av2, e2, _⟩ => hG ι2 [D] H2 e2 sub) ?_ ?_
    · rintro i x H2 H3 hi ⟨ι2, μ2, acc2, av2, e2, g2, hD2, ra2, hp2⟩ y
      obtain ⟨d, hd⟩ : ∃ d, xs[i]? = some d := ⟨xs[i], List.getElem?_eq_getElem hi⟩
      obtain ⟨hh, rd⟩ := hY i d ι2 [D] (D :: Z) H2 H3 x hd e2 sub (fun z q => .inl q) y
      have st3 : Ext ι2 [] H2 ι2 H3 ∧ RG X.K X.mg T ι2 (D :: Z) H3 μ2 ∧ H3 D = some (.lst av2) := by
        rcases hh with rfl | ⟨p, o, hpn, rfl⟩
        · exact ⟨Ext.refl, g2, hD2⟩
        · exact ⟨ext_fresh hpn, g2.fresh hpn, by rw [upd_ne (ne_of_none hD2 hpn)]; exact hD2⟩
      obtain ⟨e3, g3, hD3⟩ := st3
      have ed : xs.drop i = d :: xs.drop (i + 1) := by
        rw [List.drop_eq_getElem_cons hi]
        congr 1
        have := List.getElem?_eq_getElem hi
        rw [hd] at this; exact (Option.some.inj this).symm
      rw [ed] at hp2
      have e13 : Ext ι1 [D] H1 ι2 H3 := e2.trans e3.up fun z q => .inl q
      have sr3 : SR X.K X.mg ι2 (D :: Z) Zf H3 δ σ := sr1.extD g1 hDZ e13
      exact cl_turn (Q := fun _ _ r => postB X.K X.mg T D ι1 Z H1 r Nx) hsl rfl g3 sr3 hDZ hD3 (ra2.ext0 e3) rd hp2 (fun _ _ z => z) fun ι' H' acc' μ' av' e' g' hD' r' q => ⟨ι', μ', acc', av', e13.trans e' fun z q => .inl q, g', hD', r', q⟩
    · rintro H2 ⟨ι2, μ2, acc2, av2, e2, g2, hD2, ra2, hp2⟩
      rw [List.drop_length] at hp2
      exact hp2 ι2 H2 av2 e2 g2 hD2 ra2
theorem to_compN {ct : Tg} {ci : It} {cc ce : E} {cl : Cl} {vs : List Nat} (hsl : ∀ i ∈ ct.slots, i ∈ vs) {σ : L2.St} {H : Hp} {Q : VK} (hh : tE X.K X.mg T W (.compn ce ct ci cc cl vs) σ H Q) :
    tLcN (tI X.K X.mg T W ci) (gT X.K X.mg T ct) (tT X.K X.mg T WF cc) (fun D => tB X.K X.mg T (evc (ev ce) cl) D) vs σ H Q := by
  obtain ⟨ι, Z, Zf, μ, δ, g, sr, hp⟩ := hh
  refine ⟨ι, Z, Zf, μ, δ, g, sr, post.bind hp fun xs μ1 ι1 J H1 e1 g1 wk hp1 => ?_⟩
  intro D hD
  obtain ⟨G, Y, wlk, hG, hY⟩ := wk
  have sr1 := sr.ext g e1
  have hz0 : ∀ z ∈ D :: Z, z ∈ Z ∨ H1 z = none := fun z q => by
    rcases List.mem_cons.mp q with q | q
    · rw [q]; exact .inr hD
    · exact .inl q
  have hDZ : D ∉ Z := (g1.notin hD).2
  have hDf : D ∉ Zf := fun z => hDZ (sr.sub D z)
  refine cl_it wlk (fun i H2 => ∃ ι2 μ2 acc av, Ext ι1 [] H1 ι2 H2 ∧ RG X.K X.mg T ι2 (D :: Z) H2 μ2 ∧ H2 D = some (.lst av) ∧ Rps X.K X.mg ι2 (D :: Z) H2 acc av ∧ post X.K X.mg T (Rp X.K X.mg) ι1 Z H1 (endL (clsL ct (ev cc) (evc (ev ce) cl) (wipeS δ vs) (xs.drop i) acc μ2)) Q (WS W σ))
    ⟨ι1, μ1, [], [], ext_fresh hD, g1.consZ hD, upd_same, rfl, by simpa using hp1⟩ (fun i H2 _ ⟨ι2, μ2, acc, av, e2, _⟩ => hG ι2 [] H2 e2 (by simp)) ?_ ?_
  · rintro i x H2 H3 hi ⟨ι2, μ2, acc, av, e2, g2, hD2, ra, hp2⟩ y
    obtain ⟨d, hd⟩ : ∃ d, xs[i]? = some d := ⟨xs[i], List.getElem?_eq_getElem hi⟩
    obtain ⟨hh, rd⟩ := hY i d ι2 [] (D :: Z) H2 H3 x hd e2 (by simp) hz0 y
    have st3 : Ext ι2 [] H2 ι2 H3 ∧ RG X.K X.mg T ι2 (D :: Z) H3 μ2 ∧ H3 D = some (.lst av) := by
      rcases hh with rfl | ⟨p, o, hpn, rfl⟩
      · exact ⟨Ext.refl, g2, hD2⟩
      · exact ⟨ext_fresh hpn, g2.fresh hpn, by rw [upd_ne (ne_of_none hD2 hpn)]; exact hD2⟩
    obtain ⟨e3, g3, hD3⟩ := st3
    have ed : xs.drop i = d :: xs.drop (i + 1) := by
      rw [List.drop_eq_getElem_cons hi]
      congr 1
      have := List.getElem?_eq_getElem hi
      rw [hd] at this; exact (Option.some.inj this).symm
    rw [ed] at hp2
    have e13 : Ext ι1 [] H1 ι2 H3 := e2.trans0 e3
    have sr3 : SR X.K X.mg ι2 (D :: Z) Zf H3 δ σ := sr1.extZ g1 e13 hz0 (fun z q => List.mem_cons_of_mem _ q)
    refine cl_turn (Q := fun _ _ r => post X.K X.mg T (Rp X.K X.mg) ι1 Z H1 (endL r) Q (WS W σ)) hsl rfl g3 sr3 hDf hD3 (ra.ext0 e3) rd hp2 (fun _ _ z => z) fun ι' H' acc' μ' av' e' g' hD' r' q => ⟨ι', μ', acc', av', ?_, g', hD', r', q⟩
    refine e13.trans e' fun z q => .inr ?_
    rw [List.mem_singleton.mp q]; exact hD
  · rintro H2 ⟨ι2, μ2, acc, av, e2, g2, hD2, ra, hp2⟩
    rw [List.drop_length] at hp2
    have hDι : D ∉ ι2 := (g2.zl D (List.mem_cons_self ..)).2
    exact hp2 ι2 _ H2 e2 (g2.weakZ fun z q => List.mem_cons_of_mem _ q) ⟨D, av, rfl, ⟨hD2, hDι, hDZ⟩, ra.weak fun z q => List.mem_cons_of_mem _ q⟩
theorem BodyOk.imp {Y : Cx} {b : BW} {vs : List Nat} {tb tb' : BT} (h : BodyOk Y b vs tb) (i : ∀ σ H Nx, tb' σ H Nx → tb σ H Nx) : BodyOk Y b vs tb' := fun pins s σ H Nx I q => h pins s σ H Nx I (i σ H Nx q)
theorem m_compn2 {elt t0 i0 t1 i1 : Expr} {ifs0 ifs1 : List Expr} {scope : Scope} {own : List (Str × Nat)} {ct0 ct1 : Tg} {ci0 ci1 : It} {cc0 cc1 ce : E} {vs vs1 : List Nat} (hc : X.calm = true) (hN : X.N.Nodup) (ok : BlkOk X.N X.env.scope scope own) (hvs : vs = own.map (·.2)) (hsl0 : ∀ i ∈ ct0.slots, i ∈ vs)
    (hi0 : PI X t0 i0 (tI X.K X.mg T W ci0)) (hs0 : ∀ x, foldedSetIterable i0 X.env x = pure x)
    (hg0 : ∀ (s : Shared) (H : Hp) (C : Addr) (cl : List (Str × Addr)) (fp : List Addr), PG (X.blk s H scope (compEnvC scope cl C X.env) fp) t0 (gT X.K X.mg T ct0)) (ht0 : ∀ (s : Shared) (H : Hp) (C : Addr) (cl : List (Str × Addr)) (fp : List Addr), PTs (X.blk s H scope (compEnvC scope cl C X.env) fp) ifs0 (tT X.K X.mg T WF cc0))
    (hg1 : ∀ (s : Shared) (H : Hp) (C : Addr) (cl : List (Str × Addr)) (fp : List Addr), PG (X.blk s H scope (compEnvC scope cl C X.env) fp) t1 (gT X.K X.mg T ct1)) (ht1 : ∀ (s : Shared) (H : Hp) (C : Addr) (cl : List (Str × Addr)) (fp : List Addr), PTs (X.blk s H scope (compEnvC scope cl C X.env) fp) ifs1 (tT X.K X.mg T WF cc1))
    (hi1 : ∀ (s : Shared) (H : Hp) (C : Addr) (cl : List (Str × Addr)) (fp : List Addr), PI (X.blk s H scope (compEnvC scope cl C X.env) fp) t1 i1 (tI X.K X.mg T WF ci1)) (hs1 : ∀ env x, foldedSetIterable i1 env x = pure x) (hsl1 : ∀ i ∈ ct1.slots, i ∈ vs1) (hw1 : ∀ i ∈ vs1, i ∈ vs)
    (he : ∀ (s : Shared) (H : Hp) (C : Addr) (cl : List (Str × Addr)) (fp : List Addr), PE (X.blk s H scope (compEnvC scope cl C X.env) fp) elt (tE X.K X.mg T WF ce)) : PE X (.ListComp elt [⟨t0, i0, ifs0, 0⟩, ⟨t1, i1, ifs1, 0⟩] scope pos) (tE X.K X.mg T W (.compn ce ct0 ci0 cc0 (.cons ct1 ci1 cc1 vs1 .nil) vs)) := by
  refine ⟨fun pins s σ H Q I h => ?_⟩
  rw [eval_ListComp]
  subst hvs
  refine lcN_core (cmp := (.ListComp elt [⟨t0, i0, ifs0, 0⟩, ⟨t1, i1, ifs1, 0⟩] scope pos)) (bb := fun env acc => nextW X.prog X.w X.A (.ListComp elt [⟨t0, i0, ifs0, 0⟩, ⟨t1, i1, ifs1, 0⟩] scope pos) 1 i1 acc env) (ws := vs1) rfl hc hN I hi0 ok hw1 hg0 ht0 (fun s H C cl fp D => ?_) hs0 (fun env acc P P' s => next_mono P P' s) (fun env D => turnW2_0 (hs1 env)) (to_compN hsl0 h) fun D C s' m H' I' q hn f => ⟨m, hn, fun h'' sb => ?_⟩
  · exact ((clause_ok (Y := X.blk s H scope (compEnvC scope cl C X.env) fp) (cmp := (.ListComp elt [⟨t0, i0, ifs0, 0⟩, ⟨t1, i1, ifs1, 0⟩] scope pos)) (idx := 1) (t := t1) (i := i1) (ifs := ifs1) (D := D) (vs := vs1) hc rfl rfl (hi1 s H C cl fp) (hg1 s H C cl fp) (ht1 s H C cl fp) (((last_ok (Y := X.blk s H scope (compEnvC scope cl C X.env) fp) (D := D) (he s H C cl fp) rfl rfl)).imp fun σ H Nx h => to_last h) (by simp) (fun P P' s => lastW_mono P P' s) turnW2_1 startW2_1).imp fun σ H Nx h => to_clause hsl1 h)
  · obtain ⟨f0, f1, f2, f3, f4, f5⟩ := f
    exact ⟨.ref D, H', I'.turned (t' := s'.toks) (fun b o hb e => (sb.2 b hb).trans e) f0 f1 f3 f4 f5, rfl, q⟩
theorem m_compn3 {elt t0 i0 t1 i1 t2 i2 : Expr} {ifs0 ifs1 ifs2 : List Expr} {scope : Scope} {own : List (Str × Nat)} {ct0 ct1 ct2 : Tg} {ci0 ci1 ci2 : It} {cc0 cc1 cc2 ce : E} {vs vs1 vs2 : List Nat} (hc : X.calm = true) (hN : X.N.Nodup) (ok : BlkOk X.N X.env.scope scope own) (hvs : vs = own.map (·.2)) (hsl0 : ∀ i ∈ ct0.slots, i ∈ vs)
    (hi0 : PI X t0 i0 (tI X.K X.mg T W ci0)) (hs0 : ∀ x, foldedSetIterable i0 X.env x = pure x)
    (hg0 : ∀ (s : Shared) (H : Hp) (C : Addr) (cl : List (Str × Addr)) (fp : List Addr), PG (X.blk s H scope (compEnvC scope cl C X.env) fp) t0 (gT X.K X.mg T ct0)) (ht0 : ∀ (s : Shared) (H : Hp) (C : Addr) (cl : List (Str × Addr)) (fp : List Addr), PTs (X.blk s H scope (compEnvC scope cl C X.env) fp) ifs0 (tT X.K X.mg T WF cc0))
    (hg1 : ∀ (s : Shared) (H : Hp) (C : Addr) (cl : List (Str × Addr)) (fp : List Addr), PG (X.blk s H scope (compEnvC scope cl C X.env) fp) t1 (gT X.K X.mg T ct1)) (ht1 : ∀ (s : Shared) (H : Hp) (C : Addr) (cl : List (Str × Addr)) (fp : List Addr), PTs (X.blk s H scope (compEnvC scope cl C X.env) fp) ifs1 (tT X.K X.mg T WF cc1))
    (hg2 : ∀ (s : Shared) (H : Hp) (C : Addr) (cl : List (Str × Addr)) (fp : List Addr), PG (X.blk s H scope (compEnvC scope cl C X.env) fp) t2 (gT X.K X.mg T ct2)) (ht2 : ∀ (s : Shared) (H : Hp) (C : Addr) (cl : List (Str × Addr)) (fp : List Addr), PTs (X.blk s H scope (compEnvC scope cl C X.env) fp) ifs2 (tT X.K X.mg T WF cc2))
    (hi1 : ∀ (s : Shared) (H : Hp) (C : Addr) (cl : List (Str × Addr)) (fp : List Addr), PI (X.blk s H scope (compEnvC scope cl C X.env) fp) t1 i1 (tI X.K X.mg T WF ci1)) (hs1 : ∀ env x, foldedSetIterable i1 env x = pure x) (hsl1 : ∀ i ∈ ct1.slots, i ∈ vs1) (hw1 : ∀ i ∈ vs1, i ∈ vs)
    (hi2 : ∀ (s : Shared) (H : Hp) (C : Addr) (cl : List (Str × Addr)) (fp : List Addr), PI (X.blk s H scope (compEnvC scope cl C X.env) fp) t2 i2 (tI X.K X.mg T WF ci2)) (hs2 : ∀ env x, foldedSetIterable i2 env x = pure x) (hsl2 : ∀ i ∈ ct2.slots, i ∈ vs2) (hw2 : ∀ i ∈ vs2, i ∈ vs1)
    (he : ∀ (s : Shared) (H : Hp) (C : Addr) (cl : List (Str × Addr)) (fp : List Addr), PE (X.blk s H scope (compEnvC scope cl C X.env) fp) elt (tE X.K X.mg T WF ce)) : PE X (.ListComp elt [⟨t0, i0, ifs0, 0⟩, ⟨t1, i1, ifs1, 0⟩, ⟨t2, i2, ifs2, 0⟩] scope pos) (tE X.K X.mg T W (.compn ce ct0 ci0 cc0 (.cons ct1 ci1 cc1 vs1 (.cons ct2 ci2 cc2 vs2 .nil)) vs)) := by
  refine ⟨fun pins s σ H Q I h => ?_⟩
  rw [eval_ListComp]
  subst hvs
  refine lcN_core (cmp := (.ListComp elt [⟨t0, i0, ifs0, 0⟩, ⟨t1, i1, ifs1, 0⟩, ⟨t2, i2, ifs2, 0⟩] scope pos)) (bb := fun env acc => nextW X.prog X.w X.A (.ListComp elt [⟨t0, i0, ifs0, 0⟩, ⟨t1, i1, ifs1, 0⟩, ⟨t2, i2, ifs2, 0⟩] scope pos) 1 i1 acc env) (ws := vs1) rfl hc hN I hi0 ok hw1 hg0 ht0 (fun s H C cl fp D => ?_) hs0 (fun env acc P P' s => next_mono P P' s) (fun env D => turnW3_0 (hs1 env)) (to_compN hsl0 h) fun D C s' m H' I' q hn f => ⟨m, hn, fun h'' sb => ?_⟩
  · exact ((clause_ok (Y := X.blk s H scope (compEnvC scope cl C X.env) fp) (cmp := (.ListComp elt [⟨t0, i0, ifs0, 0⟩, ⟨t1, i1, ifs1, 0⟩, ⟨t2, i2, ifs2, 0⟩] scope pos)) (idx := 1) (t := t1) (i := i1) (ifs := ifs1) (D := D) (vs := vs1) hc rfl rfl (hi1 s H C cl fp) (hg1 s H C cl fp) (ht1 s H C cl fp) ((clause_ok (Y := X.blk s H scope (compEnvC scope cl C X.env) fp) (cmp := (.ListComp elt [⟨t0, i0, ifs0, 0⟩, ⟨t1, i1, ifs1, 0⟩, ⟨t2, i2, ifs2, 0⟩] scope pos)) (idx := 2) (t := t2) (i := i2) (ifs := ifs2) (D := D) (vs := vs2) hc rfl rfl (hi2 s H C cl fp) (hg2 s H C cl fp) (ht2 s H C cl fp) (((last_ok (Y := X.blk s H scope (compEnvC scope cl C X.env) fp) (D := D) (he s H C cl fp) rfl rfl)).imp fun σ H Nx h => to_last h) (by simp) (fun P P' s => lastW_mono P P' s) turnW3_2 startW3_2).imp fun σ H Nx h => to_clause hsl2 h) hw2 (fun P P' s => next_mono P P' s) (turnW3_1 (hs2 _)) startW3_1).imp fun σ H Nx h => to_clause hsl1 h)
  · obtain ⟨f0, f1, f2, f3, f4, f5⟩ := f
    exact ⟨.ref D, H', I'.turned (t' := s'.toks) (fun b o hb e => (sb.2 b hb).trans e) f0 f1 f3 f4 f5, rfl, q⟩
end
end Mi
set_option Elab.async false
set_option linter.all false
set_option maxRecDepth 100000
set_option maxHeartbeats 4000000
/-! Mp: new dicts, what they hold, copies. -/
namespace Mi
open PySem PySem.Spec PyProof.Rows L2 RZ
theorem ext_sub {ι : List Addr} {H H' : Hp} {p : Addr} (h : ∀ b o, H b = some o → H' b = some o) (hp : H p = none) : Ext ι [] H (ι ++ [p]) H' :=
  ⟨⟨[p], rfl, fun q hq => by rw [List.mem_singleton.mp hq]; exact hp⟩, fun a o q _ _ _ => h a o q, fun a o q => ⟨o, h a o q⟩, fun a xs q => h a _ q⟩
theorem RG.sub {K : PySem.W.Frag} {mg : Str → Option Value} {T : TW} {ι Z : List Addr} {H H' : Hp} {μ : List Mo} (g : RG K mg T ι Z H μ) {p : Addr} {m : Mo} (h : ∀ b o, H b = some o → H' b = some o) (hp : H p = none) (hm : RpM T.w K mg (ι ++ [p]) Z H' p m) : RG K mg T (ι ++ [p]) Z H' (μ ++ [m]) := by
  have np := g.notin hp
  have e := ext_sub (ι := ι) h hp
  refine ⟨?_, by simp [g.len], fun n m' hn => ?_, fun z hz => ⟨?_, fun q => ?_⟩, fun t ht => ?_⟩
  · rw [List.nodup_append]
    refine ⟨g.nd, by simp, fun a ha b hb => ?_⟩
    rw [List.mem_singleton.mp hb]
    exact fun q => np.1 (q ▸ ha)
  · by_cases hl : n < μ.length
    · rw [List.getElem?_append_left hl] at hn
      obtain ⟨a, h1, h2⟩ := g.mem n m' hn
      obtain ⟨u, q, _⟩ := h2.at
      exact ⟨a, by rw [List.getElem?_append_left (by rw [g.len]; exact hl)]; exact h1, h2.ext (Zf := []) e (by simp) (fun _ z => .inl z) ((h a u q).trans q.symm)⟩
    · have hn2 : n = μ.length := by
        have := (List.getElem?_eq_some_iff.mp hn).1
        simp at this; omega
      subst hn2
      rw [List.getElem?_append_right (Nat.le_refl _)] at hn
      simp at hn
      subst hn
      exact ⟨p, by rw [← g.len]; simp, hm⟩
  · obtain ⟨us, hu⟩ := (g.zl z hz).1
    exact ⟨us, h z _ hu⟩
  · rcases List.mem_append.mp q with q | q
    · exact (g.zl z hz).2 q
    · rw [List.mem_singleton.mp q] at hz
      exact np.2 hz
  · obtain ⟨ps, h1, h2, h3⟩ := g.tabs t ht
    refine ⟨ps, h _ _ h1, h2, fun pos cv hc => ?_⟩
    obtain ⟨c, e1, e2⟩ := h3 pos cv hc
    exact ⟨c, e1, h _ _ e2⟩
section
variable {X : Cx} {T : TW} {W : WX} {pos : Pos}
/-- {} -/
theorem m_dnew (hw : T.w = X.w) : PE X (.Dict [] [] pos) (tE X.K X.mg T W .dnew) := by
  refine ⟨fun pins s σ H Q I h => ?_⟩
  obtain ⟨ι, Z, Zf, μ, δ, g, sr, hp⟩ := h
  have hn := I.hok.fresh (Nat.le_refl s.heap.objs.size)
  refine wpAny_Dict_empty ⟨.ref s.heap.objs.size, _, I.laid (a := s.heap.objs.size) (o := NDo X.w s.heap.objs.size []) (t' := s.toks) (fun _ _ q => Heap.get?_push_of_some _ q) (Nat.le_refl _) (nd_new I), rfl, ?_⟩
  refine hp _ _ _ (ext_more hn) (g.more hn ⟨[], ?_, ?_, by simp, .nil, rfl⟩) ⟨s.heap.objs.size, rfl, by rw [← g.len]; simp⟩
  · rw [hw]; exact upd_same
  · exact beq_eq_false_iff_ne.mpr (Ne.symm (Nat.ne_of_lt I.big))
/-- d.get(k, x) -/
theorem m_dget {o k x : Expr} {co ck cx : E} {apos cpos : Pos} (hw : T.w = X.w) (hu : X.A.units + 9 < cLine) (ho : PE X o (tE X.K X.mg T W co)) (hk : PE X k (tE X.K X.mg T W ck)) (hx : PE X x (tE X.K X.mg T W cx)) (m : L2.M2 X o "get" apos k x cpos) : PE X (.Call (.Attribute o "get" apos) [k, x] [] cpos) (tE X.K X.mg T W (.dget co ck cx)) := by
  refine ⟨fun pins s σ H Q I h => ?_⟩
  obtain ⟨ι, Z, Zf, μ, δ, g, sr, hp⟩ := h
  have h1 : tE X.K X.mg T W co σ H (fun v H1 => ∃ n a ι1 μ1 kvs, v = .ref a ∧ μ1[n]? = some (.dcn kvs) ∧ ι1[n]? = some a ∧ RG X.K X.mg T ι1 Z H1 μ1 ∧ SR X.K X.mg ι1 Z Zf H1 δ σ ∧ post X.K X.mg T (Rp X.K X.mg) ι1 Z H1 (bindR (ev ck δ μ1) fun b μ => bindR (ev cx δ μ) fun c μ => optR (getN μ (.obj n) b c) μ) Q (WS W σ)) := by
    simp only [ev] at hp
    refine ⟨ι, Z, Zf, μ, δ, g, sr, post.bind hp fun d μ1 ι1 v H1 e1 g1 r1 hp1 => ?_⟩
    split at hp1
    · rename_i hd
      unfold isDcn at hd
      split at hd
      · rename_i n
        split at hd
        · rename_i kvs hm
          obtain ⟨a, rfl, ha⟩ := r1
          exact ⟨n, a, ι1, μ1, kvs, rfl, hm, ha, g1, sr.ext g e1, hp1⟩
        · cases hd
      · cases hd
    · exact hp1.elim
  refine wpAny_Call_method m.base m.few m.line PySem.F.plainAttrs_dict PySem.F.slot_dict_get PySem.F.type_dict_get (thn (ho.run pins s σ H _ I h1) fun u s1 ⟨v, H1, I1, rv, n, a, ι1, μ1, kvs, ev1, hm, ha, g1, sr1, hp1⟩ => ?_)
  subst ev1
  obtain rfl : u = Value.ref a := rv
  obtain ⟨xs, q1, q2, q3, q4, q5⟩ := nd_mem hw g1 hm ha
  obtain ⟨ys, r1, dd⟩ := nd_dict I1 q1 q3 q4
  refine ⟨dd.typeIs, fun b q => ?_, ?_⟩
  · cases q
    obtain ⟨ob, _, _, h1, h2, _⟩ := dd
    exact ⟨ob, h1, h2.2.1⟩
  rw [m.trees]
  have h2 : tE X.K X.mg T W ck σ H1 (fun b H2 => tE X.K X.mg T W cx σ H2 (fun c H3 => ∃ ι3 μ3 kvs kd k' xd, RG X.K X.mg T ι3 Z H3 μ3 ∧ μ3[n]? = some (.dcn kvs) ∧ ι3[n]? = some a ∧ nkT kd = some k' ∧ Rp X.K X.mg ι3 Z H3 kd b ∧ Rp X.K X.mg ι3 Z H3 xd c ∧ ∀ y, Rp X.K X.mg ι3 Z H3 ((lookN kvs k').getD xd) y → Q y H3)) := by
    refine ⟨ι1, Z, Zf, μ1, δ, g1, sr1, post.bind hp1 fun kd μ2 ι2 b H2 e2 g2 rb hp2 => ?_⟩
    refine ⟨ι2, Z, Zf, μ2, δ, g2, sr1.ext g1 e2, post.bind hp2 fun xd μ3 ι3 c H3 e3 g3 rc hp3 => ?_⟩
    have ha3 : ι3[n]? = some a := by
      obtain ⟨l2, rfl, _⟩ := e2.ids
      obtain ⟨l3, rfl, _⟩ := e3.ids
      rw [List.append_assoc, List.getElem?_append_left (List.getElem?_eq_some_iff.mp ha).1]
      exact ha
    unfold optR getN at hp3
    simp only at hp3
    split at hp3
    · rename_i kvs3 hm3
      cases hk3 : nkT kd with
      | none => rw [hk3] at hp3; exact hp3.elim
      | some k' =>
        rw [hk3] at hp3
        exact ⟨ι3, μ3, kvs3, kd, k', xd, g3, hm3, ha3, hk3, rb.ext0 e3, rc, fun y ry => hp3 ι3 y H3 Ext.refl g3 ry⟩
    · exact hp3.elim
  refine Calls.callWith_builtin rfl (Calls.evalArgs_plain (Calls.spliced_cons (thn (hk.run pins s1 σ H1 _ I1 h2) fun iv s2 ⟨b, H2, I2, rb, h3⟩ =>
    Calls.spliced_cons (thn (hx.run pins s2 σ H2 _ I2 h3) fun fv s3 ⟨c, H3, I3, rc, ι3, μ3, kvs, kd, k', xd, g3, hm3, ha3, hk3, rk, rx, q⟩ => Calls.spliced_nil ?_))))
  exact nd_get hw hu I3 g3 hm3 ha3 hk3 rk rb rx rc fun y u' s' I' rv' rp => ⟨y, H3, I', rv', q y rp⟩
/-- list(e) as a changeable list -/
theorem m_mcp {e : Expr} {ce : E} {p : Pos} (hg : Gl X "list") (hm : X.mg "list" = none) (he : PE X e (tE X.K X.mg T W ce)) (hs : starEach [e] X.env = (false, eval e X.env) :: starEach [] X.env) : PE X (.Call (.Name "list" p) [e] [] pos) (tE X.K X.mg T W (.mcp ce)) :=
  PE.imp (pe_callTy call_list_of hg hm (by decide +kernel) (pa_cons he pa_nil hs) (by decide) (by decide) hs rfl) fun σ H Q h => by
    obtain ⟨ι, Z, Zf, μ, δ, g, sr, hp⟩ := h
    simp only [ev] at hp
    refine ⟨ι, Z, Zf, μ, δ, g, sr, post.bind hp fun d μ1 ι1 v H1 e1 g1 r1 hp1 => ?_⟩
    cases hi : itemsD μ1 d with
    | none => rw [hi] at hp1; exact hp1.elim
    | some xs =>
      rw [hi] at hp1
      unfold itemsD at hi
      have fin : ∀ (a : Addr) (vs : List V), Rps X.K X.mg ι1 Z H1 xs vs → ∀ l, H1 l = none → Q (.ref l) (upd H1 l (.lst vs)) := fun a vs r l hl =>
        hp1 _ _ _ (ext_more hl) (g1.more hl ⟨vs, upd_same, r.ext0 (ext_more hl)⟩) ⟨l, rfl, by rw [← g1.len]; simp⟩
      split at hi
      · rename_i ys e2
        cases hi
        obtain ⟨a, vs, rfl, h1, h2⟩ := see_lst g1 e2 r1
        exact ⟨a, vs, rfl, .inl (SqL.of h1), fin a vs h2⟩
      · rename_i ys e2
        cases hi
        obtain ⟨a, vs, rfl, h1, h2⟩ := see_seq g1 e2 r1
        exact ⟨a, vs, rfl, .inr h1.sq, fin a vs h2⟩
      · cases hi
end
theorem valV_nd {kvs : List (Key × V)} : ∀ {i : Nat} {k : Key} {v : V}, (kvs.map (·.1)).Nodup → kvs[i]? = some (k, v) → valV kvs k = some v := by
  induction kvs with
  | nil => intro i k v _ h; simp at h
  | cons p kvs ih =>
    intro i k v hn h
    rw [List.map_cons, List.nodup_cons] at hn
    cases i with
    | zero => simp at h; rw [h]; exact valV_pos (p := (k, v)) rfl
    | succ i =>
      have h : kvs[i]? = some (k, v) := by simpa using h
      rw [valV_neg fun e => hn.1 ?_]
      · exact ih hn.2 h
      · rw [e]; exact List.mem_map.mpr ⟨(k, v), List.mem_of_getElem? h, rfl⟩
section
variable {X : Cx} {T : TW} {W : WX} {pos : Pos}
/-- dict([(x, o[x]) for x in o]), o a name -/
theorem pe_dcp {i io : Nat} {x o : Str} {p px1 po1 px2 ps1 pt1 px3 po2 pl : Pos} {kt : Nat} {scope : Scope} {own : List (Str × Nat)} (hc : X.calm = true) (hu : X.A.units + 1 < cLine) (hg : Gl X "dict") (hm : X.mg "dict" = none) (hN : X.N.Nodup) (ok : BlkOk X.N X.env.scope scope own) (hio : io ∉ own.map (·.2)) (hi : i ∈ own.map (·.2))
    (hxN : X.N[i]? = some x) (hoN : X.N[io]? = some o) (hov : Vis X.env.scope o) (hod : (o == ("__debug__" : Str)) = false) (hocd : (o == ("__classdict__" : Str)) = false) (hxd : (x == ("__debug__" : Str)) = false) (hxcd : (x == ("__classdict__" : Str)) = false)
    (hxb : ∀ (s : Shared) (H : Hp) (C : Addr) (cl : List (Str × Addr)) (fp : List Addr), Vis (X.blk s H scope (compEnvC scope cl C X.env) fp).env.scope x ∧ Loc (X.blk s H scope (compEnvC scope cl C X.env) fp).env.scope x ∧ ((X.blk s H scope (compEnvC scope cl C X.env) fp).fn x = true ∨ (X.blk s H scope (compEnvC scope cl C X.env) fp).env.scope.names.lookup x = some .local))
    (hob : ∀ (s : Shared) (H : Hp) (C : Addr) (cl : List (Str × Addr)) (fp : List Addr), Vis (X.blk s H scope (compEnvC scope cl C X.env) fp).env.scope o) :
    PE X (.Call (.Name "dict" p) [.ListComp (.Tuple [.Name x px1, .Subscript (.Name o po1) (.Name x px2) ps1] kt pt1) [⟨.Name x px3, .Name o po2, [], 0⟩] scope pl] [] pos) (fun σ H Q => i < σ.length ∧ ∃ a kvs, σ[io]? = some (some (.ref a)) ∧ H a = some (.dK kvs) ∧ (kvs.map (·.1)).Nodup ∧ kvs.length < sizeLine ∧
      ∀ q H', (∀ b u, H b = some u → H' b = some u) → H q = none → H' q = some (.dK kvs) → Q (.ref q) H') := by
  refine PE.imp (pe_lock (pe_callTy (call_dictP hc) hg hm (by decide +kernel) (pa_cons (pe_lc hc hN (pi_keys (pe_var hoN hov hod hocd)) ok
    (fun s H C cl fp => pg_name (X := X.blk s H scope (compEnvC scope cl C X.env) fp) hN hxN (hxb s H C cl fp).2.1 (hxb s H C cl fp).2.2) (fun s H C cl fp => pts_nil)
    (fun s H C cl fp => pe_tup (pa_cons (pe_var (X := X.blk s H scope (compEnvC scope cl C X.env) fp) hxN (hxb s H C cl fp).1 hxd hxcd) (pa_cons (pe_dget (X := X.blk s H scope (compEnvC scope cl C X.env) fp) hu (pe_var hoN (hob s H C cl fp) hod hocd) (pe_var hxN (hxb s H C cl fp).1 hxd hxcd) (fun _ _ => rfl)) pa_nil rfl) rfl)) (fun _ => rfl)) pa_nil rfl) (by decide) (by decide) rfl rfl)) fun σ H Q h => ?_
  obtain ⟨hlen, a, kvs, hσ, ha, hn, hz, hQ⟩ := h
  refine ⟨a, .dK kvs, ha, trivial, fun od => ?_⟩
  have hH0 : upd H a (.frz od (.dK kvs)) a = some (.frz od (.dK kvs)) := upd_same
  refine ⟨.ref a, hσ, a, od, rfl, .inl ⟨kvs, hH0, ?_⟩⟩
  intro D hD
  have hDH : H D = none := by
    by_cases e : D = a
    · rw [e, hH0] at hD; cases hD
    · rw [upd_ne e] at hD; exact hD
  refine lc_it walk_keys (fun j H2 => (∀ b u, upd H a (.frz od (.dK kvs)) b = some u → H2 b = some u) ∧ ∃ qs : List Addr, H2 D = some (.lst (qs.map V.ref)) ∧ Paired (fun q kv => H2 q = some (.tup [kV kv.1, kv.2])) qs (kvs.take j))
    ⟨fun b u q => by rw [upd_ne (ne_of_none q hD)]; exact q, [], upd_same, .nil⟩ (fun j H2 _ q => q.1 a _ hH0) ?_ ?_
  · rintro j y H2 H3 hj ⟨q1, qs, q2, q3⟩ ⟨rfl, k, v, e1, rfl⟩
    have hwx : (wipe σ (own.map (·.2))).length = σ.length := wipe_length _ _
    refine ⟨?_, ?_⟩
    · rw [wipe_set hi]; exact wipe_wipe σ _
    · simp only [tYes, if_true]
      have hil : i < (wipe σ (own.map (·.2))).length := by rw [hwx]; exact hlen
      refine ⟨kV k, by rw [List.getElem?_set_self hil], ?_⟩
      have ho2 : ((wipe σ (own.map (·.2))).set i (some (kV k)))[io]? = some (some (.ref a)) := by
        have hne : i ≠ io := fun e => hio (by rw [← e]; exact hi)
        rw [List.getElem?_set_ne hne, wipe_out hio]; exact hσ
      refine ⟨.ref a, ho2, kV k, by rw [List.getElem?_set_self hil], a, v, rfl, .inl ⟨kvs, k, .inr ⟨od, q1 a _ hH0⟩, rfl, (valV_nd hn e1).symm⟩, by show 2 ≤ sizeLine; decide, fun q hq => ?_⟩
      have hDq : D ≠ q := ne_of_none q2 hq
      have hl : qs.length = j := by
        have := Paired.length q3
        rw [List.length_take] at this; omega
      refine ⟨qs.map V.ref, by rw [upd_ne hDq]; exact q2, by rw [List.length_map, hl]; omega, ?_⟩
      refine ⟨fun b u e => ?_, qs ++ [q], by rw [upd_same]; simp, ?_⟩
      · have hb := q1 b u e
        have hbD : b ≠ D := ne_of_none e hD
        rw [upd_ne hbD, upd_ne (ne_of_none hb hq)]
        exact hb
      · have et : kvs.take (j + 1) = kvs.take j ++ [(k, v)] := by
          rw [List.take_succ, e1]; rfl
        rw [et]
        have hqD : q ≠ D := fun e => hDq e.symm
        refine Paired.snoc (Paired.mapP q3 fun b kv z => ?_) (by rw [upd_ne hqD]; exact upd_same)
        have hbq : b ≠ q := ne_of_none z hq
        have hbD : b ≠ D := fun e => by rw [e, q2] at z; cases z
        rw [upd_ne hbD, upd_ne hbq]
        exact z
  · rintro H2 ⟨q1, qs, q2, q3⟩
    rw [List.take_length] at q3
    refine ⟨D, qs, kvs, rfl, SqL.of q2, Paired.mapP q3 fun q kv z => .inl (.inl z), fun p hp => ?_⟩
    have hap : a ≠ p := ne_of_none (q1 a _ hH0) hp
    refine ⟨by rw [upd_ne hap]; exact q1 a _ hH0, ?_⟩
    have em : mergeK [] kvs = kvs := by
      have := merge_id kvs [] (by simpa using hn)
      simpa using this
    refine hQ p _ (fun b u e => ?_) ?_ ?_
    · by_cases z : b = a
      · rw [z, upd_same]; rw [z, ha] at e; exact e
      · have hb := q1 b u (by rw [upd_ne z]; exact e)
        rw [upd_ne z, upd_ne (ne_of_none hb hp)]
        exact hb
    · cases q : H p with
      | none => rfl
      | some u =>
        have := q1 p u (by rw [upd_ne (Ne.symm hap)]; exact q)
        rw [hp] at this; cases this
    · rw [upd_ne (Ne.symm hap), upd_same, em]
theorem m_dcp {i io : Nat} {x o : Str} {p px1 po1 px2 ps1 pt1 px3 po2 pl : Pos} {kt : Nat} {scope : Scope} {own : List (Str × Nat)} (hc : X.calm = true) (hu : X.A.units + 1 < cLine) (hg : Gl X "dict") (hm : X.mg "dict" = none) (hN : X.N.Nodup) (ok : BlkOk X.N X.env.scope scope own) (hio : io ∉ own.map (·.2)) (hi : i ∈ own.map (·.2))
    (hxN : X.N[i]? = some x) (hoN : X.N[io]? = some o) (hov : Vis X.env.scope o) (hod : (o == ("__debug__" : Str)) = false) (hocd : (o == ("__classdict__" : Str)) = false) (hxd : (x == ("__debug__" : Str)) = false) (hxcd : (x == ("__classdict__" : Str)) = false)
    (hxb : ∀ (s : Shared) (H : Hp) (C : Addr) (cl : List (Str × Addr)) (fp : List Addr), Vis (X.blk s H scope (compEnvC scope cl C X.env) fp).env.scope x ∧ Loc (X.blk s H scope (compEnvC scope cl C X.env) fp).env.scope x ∧ ((X.blk s H scope (compEnvC scope cl C X.env) fp).fn x = true ∨ (X.blk s H scope (compEnvC scope cl C X.env) fp).env.scope.names.lookup x = some .local))
    (hob : ∀ (s : Shared) (H : Hp) (C : Addr) (cl : List (Str × Addr)) (fp : List Addr), Vis (X.blk s H scope (compEnvC scope cl C X.env) fp).env.scope o) :
    PE X (.Call (.Name "dict" p) [.ListComp (.Tuple [.Name x px1, .Subscript (.Name o po1) (.Name x px2) ps1] kt pt1) [⟨.Name x px3, .Name o po2, [], 0⟩] scope pl] [] pos) (tE X.K X.mg T W (.dcp i (.var io))) :=
  PE.imp (pe_dcp hc hu hg hm hN ok hio hi hxN hoN hov hod hocd hxd hxcd hxb hob) fun σ H Q h => by
    obtain ⟨ι, Z, Zf, μ, δ, g, sr, hp⟩ := h
    simp only [ev] at hp
    cases hq : δ[io]? with
    | none => rw [hq] at hp; exact hp.elim
    | some sl =>
      rw [hq] at hp
      cases sl with
      | d y =>
        simp only [retR, bindR] at hp
        cases hd : dctOf μ y with
        | none => rw [hd] at hp; exact hp.elim
        | some kvs =>
          rw [hd] at hp
          simp only at hp
          split at hp
          · rename_i hl
            obtain ⟨v, hv, rv⟩ := sr.get hq
            unfold dctOf at hd
            split at hd
            · rename_i n
              split at hd
              · rename_i ks hmm
                split at hd <;> cases hd
                rename_i hc2
                simp only [Bool.and_eq_true, decide_eq_true_eq] at hc2
                obtain ⟨a, rfl, ha⟩ := rv
                obtain ⟨b, hb, vs, h1, h2⟩ := g.mem n _ hmm
                rw [ha] at hb; cases hb
                have hln : kvs.length = vs.length := by have := h2.length; simpa using this
                have hkeys : (((kvs.map fun p => (Sum.inr p.1 : Key)).zip vs).map (·.1)) = kvs.map fun p => (Sum.inr p.1 : Key) := by
                  rw [List.map_fst_zip]; simp [hln]
                refine ⟨by rw [← sr.len]; exact hl, a, _, hv, h1, ?_, ?_, fun q H' hs hq2 hq3 => ?_⟩
                · rw [hkeys]
                  have : (kvs.map fun p => (Sum.inr p.1 : Key)) = (kvs.map (·.1)).map Sum.inr := by rw [List.map_map]; rfl
                  rw [this]
                  refine List.Pairwise.map _ (fun a b h e => h ?_) hc2.2
                  cases e; rfl
                · rw [List.length_zip, List.length_map, ← hln, Nat.min_self, sizeLine_eq]; omega
                · exact hp _ _ _ (ext_sub hs hq2) (g.sub hs hq2 ⟨vs, hq3, h2.ext0 (ext_sub hs hq2)⟩) ⟨q, rfl, by rw [← g.len]; simp⟩
              · cases hd
            · cases hd
          · exact hp.elim
      | _ => exact hp.elim
/-- any store -/
theorem put_any {ι Z : List Addr} {H : Hp} {μ μ' : List Mo} {x k v : Mi.D} {x' k' v' : V} {Q : Hp → Prop} (g : RG X.K X.mg T ι Z H μ) (ho : putD μ x k v = some μ') (rx : Rp X.K X.mg ι Z H x x') (rk : Rp X.K X.mg ι Z H k k') (rv : Rp X.K X.mg ι Z H v v') (q : ∀ H', Ext ι [] H ι H' → RG X.K X.mg T ι Z H' μ' → Q H') :
    (rSetL x' k' v' H Q ∨ rSetD x' k' v' H Q) ∨ rSetN X T x' k' v' H Q := by
  unfold putD at ho
  split at ho
  · rename_i n
    split at ho
    · rename_i xs k hm
      cases hx : L2.ixN xs.length k with
      | none => rw [hx] at ho; cases ho
      | some j =>
        rw [hx] at ho
        cases ho
        obtain ⟨a, rfl, ha⟩ := rx
        obtain ⟨b, hb, vs, hv, rvs⟩ := g.mem n _ hm
        rw [ha] at hb; cases hb
        obtain ⟨g4, e4⟩ := g.setL (ys := xs.set j v) (ws := vs.set j v') hm ha hv (rvs.set j rv)
        exact .inl <| .inl ⟨a, vs, k, j, rfl, rk, hv, by rw [← rvs.length]; exact hx, q _ e4 g4⟩
    · rename_i kvs z hm
      split at ho
      · rename_i hc
        cases ho
        simp only [Bool.and_eq_true, decide_eq_true_eq] at hc
        obtain ⟨a, rfl, ha⟩ := rx
        obtain ⟨b, hb, vs, hv, rvs⟩ := g.mem n _ hm
        rw [ha] at hb; cases hb
        obtain ⟨ws, w1, w2⟩ := put_rel (z := z) rv rvs
        obtain ⟨g4, e4⟩ := g.setD (m := putS kvs z v) (ws := ws) hm ha hv w2
        have hk' : k' = V.str z := rk
        subst hk'
        refine .inl <| .inr ⟨a, upd H a (.dK (((putS kvs z v).map kS).zip ws)), rfl, ?_, q _ e4 g4⟩
        have hl : kvs.length = vs.length := by have := rvs.length; simpa using this
        have hput : L2.putK ((kvs.map kS).zip vs) (Sum.inr z : Key) v' = ((putS kvs z v).map kS).zip ws := by
          unfold L2.putK
          rw [any_key hl hc.2, if_pos rfl]
          exact w1
        have := L2.DPut.k (k := (Sum.inr z : Key)) (v := v') hv (by rw [List.length_zip, List.length_map, ← hl, Nat.min_self, sizeLine_eq]; omega)
        rw [hput] at this
        exact this
      · cases ho
    · rename_i kvs ds hm
      cases hk : nkT (.tup ds) with
      | none => rw [hk] at ho; cases ho
      | some k =>
        rw [hk] at ho
        simp only [Option.bind_some] at ho
        split at ho
        · rename_i hz
          cases ho
          obtain ⟨a, rfl, ha⟩ := rx
          exact .inr ⟨ι, Z, μ, n, kvs, a, .tup ds, v, k, g, rfl, hm, ha, hk, rk, rv, by rw [sizeLine_eq]; omega, fun H' e4 g4 => q H' e4 g4⟩
        · cases ho
    · cases ho
  · cases ho
/-- o[i], o2[i2] = e, e2 -/
theorem s_put2 {o i o2 i2 e e2 : Expr} {co ci co2 ci2 ce ce2 : E} {p p2 pt pv : Pos} {kt kv : Nat} (hc : X.calm = true) (he : PE X e (tE X.K X.mg T W ce)) (he2 : PE X e2 (tE X.K X.mg T W ce2)) (ho : PE X o (tE X.K X.mg T W co)) (hi : PE X i (tE X.K X.mg T W ci)) (ho2 : PE X o2 (tE X.K X.mg T W co2)) (hi2 : PE X i2 (tE X.K X.mg T W ci2))
    (hst : starEach [e, e2] X.env = (false, eval e X.env) :: starEach [e2] X.env) (hst2 : starEach [e2] X.env = (false, eval e2 X.env) :: starEach [] X.env)
    (hs : swapsWithSole [.Tuple [.Subscript o i p, .Subscript o2 i2 p2] kt pt] (.Tuple [e, e2] kv pv) pos.line X.env = pure false) (hw : swappedStores [.Tuple [.Subscript o i p, .Subscript o2 i2 p2] kt pt] (.Tuple [e, e2] kv pv) X.env = pure none)
    (h1 : (assignEach [.Tuple [.Subscript o i p, .Subscript o2 i2 p2] kt pt] X.env).map (·.2) = [assign (.Tuple [.Subscript o i p, .Subscript o2 i2 p2] kt pt) X.env])
    (ha : ∀ v, assign (.Subscript o i p) X.env v = (do
      let ov ← holding [v] (eval o X.env)
      let iv ← holding [v, ov] (eval i X.env)
      standAt p
      holding [v, ov, iv] (setItem ov iv v)
      release [v, ov, iv] []))
    (ha2 : ∀ v, assign (.Subscript o2 i2 p2) X.env v = (do
      let ov ← holding [v] (eval o2 X.env)
      let iv ← holding [v, ov] (eval i2 X.env)
      standAt p2
      holding [v, ov, iv] (setItem ov iv v)
      release [v, ov, iv] []))
    (hn : (assignEach [.Subscript o i p, .Subscript o2 i2 p2] X.env).length = 2) (hst3 : (assignEach [.Subscript o i p, .Subscript o2 i2 p2] X.env).findIdx? (·.1) = none)
    (g1 : (assignEach [.Subscript o i p, .Subscript o2 i2 p2] X.env).map (·.2) = assign (.Subscript o i p) X.env :: (assignEach [.Subscript o2 i2 p2] X.env).map (·.2)) (g2 : (assignEach [.Subscript o2 i2 p2] X.env).map (·.2) = assign (.Subscript o2 i2 p2) X.env :: (assignEach [] X.env).map (·.2))
    (hTw : T.w = X.w) (hu : X.A.units + 9 < cLine) : PS X (.Assign [.Tuple [.Subscript o i p, .Subscript o2 i2 p2] kt pt] (.Tuple [e, e2] kv pv) pos) (tS X.K X.mg T W (.put2 co ci co2 ci2 ce ce2)) := by
  have st : PSet X _ := PSet.or (PSet.or set_list (set_dict (X := X) (by omega))) (set_nd (T := T) hTw hu)
  refine PS.imp (ps_asg (pe_tup (pa_cons he (pa_cons he2 pa_nil hst2) hst)) (pg_tup hc (pgs_cons (pg_sub ho hi st ha) (pgs_cons (pg_sub ho2 hi2 st ha2) pgs_nil g2) g1) hn hst3) hs hw h1) fun D σ H h => ?_
  obtain ⟨ι, Zo, Zf, μ, δ, s, hp⟩ := h
  simp only [ex] at hp
  refine ⟨ι, Zo ++ Zf, Zf, μ, δ, s.g, s.s, hp.thenE s fun v μ1 ι1 v' H1 e1 r1 s1 h1 => ?_⟩
  refine ⟨ι1, Zo ++ Zf, Zf, μ1, δ, s1.g, s1.s, h1.thenE s1 fun v2 μ2 ι2 v2' H2 e2 r2 s2 h2 => ?_⟩
  refine ⟨by show 2 ≤ sizeLine; decide, fun q hq => ?_⟩
  have e3 : Ext ι2 [] H2 ι2 (upd H2 q (.tup [v', v2'])) := ext_fresh hq
  have s3 := s2.fresh (o := .tup [v', v2']) hq
  have h3 := h2.mono (ι1 := ι2) (Zf1 := Zf) (e3.mono (by simp)) fun _ z => .inl z
  refine ⟨q, [v', v2'], rfl, .inl (.inl upd_same), rfl, v', [v2'], rfl, ?_⟩
  refine ⟨ι2, Zo ++ Zf, Zf, μ2, δ, s3.g, s3.s, h3.thenE s3 fun x μ4 ι4 x' H4 e4 r4 s4 h4 => ?_⟩
  refine ⟨ι4, Zo ++ Zf, Zf, μ4, δ, s4.g, s4.s, h4.thenE s4 fun k μ5 ι5 k' H5 e5 r5 s5 h5 => ?_⟩
  cases ho1 : putD μ5 x k v with
  | none => rw [ho1] at h5; exact h5.elim
  | some μ6 =>
    rw [ho1] at h5
    simp only [Option.bind_some] at h5
    refine put_any s5.g ho1 (r4.ext0 e5) r5 ((((r1.ext0 e2).ext0 e3).ext0 e4).ext0 e5) fun H6 e6 g6 => ?_
    have s6 : SX X.K X.mg T ι5 Zo Zf H6 μ6 δ σ := ⟨g6, s5.s.ext s5.g e6, s5.dj⟩
    have h6 := h5.mono (ι1 := ι5) (Zf1 := Zf) (e6.mono (by simp)) fun _ z => .inl z
    refine ⟨v2', [], rfl, ?_⟩
    refine ⟨ι5, Zo ++ Zf, Zf, μ6, δ, s6.g, s6.s, h6.thenE s6 fun x2 μ7 ι7 x2' H7 e7 r7 s7 h7 => ?_⟩
    refine ⟨ι7, Zo ++ Zf, Zf, μ7, δ, s7.g, s7.s, h7.thenE s7 fun k2 μ8 ι8 k2' H8 e8 r8 s8 h8 => ?_⟩
    cases ho2 : putD μ8 x2 k2 v2 with
    | none => rw [ho2] at h8; exact h8.elim
    | some μ9 =>
      rw [ho2] at h8
      simp only [Option.bind_some] at h8
      refine put_any s8.g ho2 (r7.ext0 e8) r8 ((((((r2.ext0 e3).ext0 e4).ext0 e5).ext0 e6).ext0 e7).ext0 e8) fun H9 e9 g9 => ⟨rfl, ?_⟩
      exact (h8.mono (e9.mono (by simp)) fun _ z => .inl z).nx ⟨g9, s8.s.ext s8.g e9, s8.dj⟩
/-- x, y, z = e, [], [] -/
theorem s_setl2 {i j l : Nat} {x y z : Str} {a : Expr} {ca : E} {px py pz pt pl pl2 : Pos} {kt k2 pt2} (hc : X.calm = true) (hN : X.N.Nodup) (hi : X.N[i]? = some x) (hj : X.N[j]? = some y) (hl : X.N[l]? = some z) (hij : i ≠ j) (hil : i ≠ l) (hjl : j ≠ l)
    (hx : X.env.scope.names.lookup x = some .local) (hy : X.env.scope.names.lookup y = some .local) (hz : X.env.scope.names.lookup z = some .local) (ha : PE X a (tE X.K X.mg T W ca)) (hst : starEach [a, .List [] pl, .List [] pl2] X.env = (false, eval a X.env) :: starEach [.List [] pl, .List [] pl2] X.env)
    (hw : swappedStores [.Tuple [.Name x px, .Name y py, .Name z pz] kt pt] (.Tuple [a, .List [] pl, .List [] pl2] k2 pt2) X.env = pure (some [x, y, z]))
    (hs : swapsWithSole [.Tuple [.Name x px, .Name y py, .Name z pz] kt pt] (.Tuple [a, .List [] pl, .List [] pl2] k2 pt2) pos.line X.env = pure false) :
    PS X (.Assign [.Tuple [.Name x px, .Name y py, .Name z pz] kt pt] (.Tuple [a, .List [] pl, .List [] pl2] k2 pt2) pos) (tS X.K X.mg T W (.setl2 i j l ca)) :=
  PS.imp (ps_par3 hc hN hi hj hl hij hil hjl hx hy hz (pa_cons ha (pa_cons (pe_lst pa_nil) (pa_cons (pe_lst pa_nil) pa_nil rfl) rfl) hst) hw hs) fun D σ H h => by
    obtain ⟨ι, Zo, Zf, μ, δ, s, hp⟩ := h
    simp only [ex] at hp
    refine ⟨ι, Zo ++ Zf, Zf, μ, δ, s.g, s.s, hp.thenE s fun v μ1 ι1 v' H1 e1 r1 s1 h1 => ?_⟩
    refine ⟨by simp, fun q hq => ?_⟩
    have s2 : SX X.K X.mg T ι1 Zo Zf H1 μ1 (δ.set i (.d v)) (σ.set i (some v')) := ⟨s1.g, s1.s.set r1, s1.dj⟩
    have s3 := s2.newLin (i := j) hq (xs := []) (vs := []) rfl
    have h3 := h1.mono (ι1 := ι1) (Zf1 := q :: Zf) (ext_fresh (o := .lst []) hq) fun z hz => by
      rcases List.mem_cons.mp hz with e | e
      · rw [e]; exact .inr hq
      · exact .inl e
    refine ⟨by simp, fun q2 hq2 => ⟨v', .ref q, .ref q2, rfl, ?_⟩⟩
    refine (h3.mono (ι1 := ι1) (Zf1 := q2 :: q :: Zf) (ext_fresh (o := .lst []) hq2) fun z hz => ?_).nx (s3.newLin hq2 (xs := []) (vs := []) rfl)
    rcases List.mem_cons.mp hz with e | e
    · rw [e]; exact .inr hq2
    · exact .inl e
end
end Mi
set_option Elab.async false
set_option linter.all false
set_option maxRecDepth 100000
set_option maxHeartbeats 4000000
/-! Mk0: names as a def's scope has them. -/
namespace Mi
open PySem PySem.Spec PyProof.Rows L2 RZ
def visB (sc : Scope) (x : Str) : Bool := match sc.names.lookup x with
  | some .local => true
  | some .cell => true
  | some .free => true
  | _ => false
def locB (sc : Scope) (x : Str) : Bool := match sc.names.lookup x with
  | some .local => true
  | some .cell => true
  | _ => false
def glB (sc : Scope) (x : Str) : Bool := (match sc.names.lookup x with
  | some .globalImplicit => true
  | _ => false) && !(x == ("__debug__" : Str)) && !(decide (x = "__name__"))
/-- the names that may be stored to -/
def LocOk (X : Cx) (sw : Scope) : Prop := ∀ y, locB sw y = true → L2.Loc X.env.scope y ∧ (X.fn y = true ∨ X.env.scope.names.lookup y = some .local)
theorem vis_of {sc : Scope} {x : Str} (h : visB sc x = true) : Vis sc x := by
  unfold visB at h
  unfold Vis
  split at h
  · exact .inl ‹_›
  · exact .inr (.inl ‹_›)
  · exact .inr (.inr ‹_›)
  · cases h
theorem loc_of {sc : Scope} {x : Str} (h : locB sc x = true) : L2.Loc sc x := by
  unfold locB at h
  unfold L2.Loc
  split at h
  · exact .inl ‹_›
  · exact .inr ‹_›
  · cases h
theorem locOk_blk {X : Cx} {scope : Scope} {s : Shared} {H : Hp} {cl : List (Str × Addr)} {a : Addr} {fp : List Addr} : LocOk (X.blk s H scope (compEnvC scope cl a X.env) fp) scope := fun y h => by
  have keep : ∀ k, k ≠ NameKind.free → scope.names.lookup y = some k → (relS scope X.env.scope).names.lookup y = some k := fun k hk e => lookup_relS_keep hk e
  rcases loc_of h with e | e
  · have e2 := keep _ (by decide) e
    exact ⟨.inl e2, .inr e2⟩
  · exact ⟨.inr (keep _ (by decide) e), .inl (by show (scope.names.lookup y == some .cell) = true; rw [e]; rfl)⟩
theorem gl_of {sc : Scope} {x : Str} (h : glB sc x = true) : sc.names.lookup x = some .globalImplicit ∧ (x == ("__debug__" : Str)) = false ∧ x ≠ "__name__" := by
  unfold glB at h
  simp only [Bool.and_eq_true, Bool.not_eq_true', decide_eq_false_iff_not] at h
  obtain ⟨⟨h1, h2⟩, h3⟩ := h
  split at h1
  · exact ⟨‹_›, h2, h3⟩
  · cases h1
end Mi
set_option Elab.async false
set_option linter.all false
set_option maxRecDepth 100000
set_option maxHeartbeats 4000000
/-! Nx: exceptions with an attribute: made by their own __init__, caught, read. -/
namespace L2
open PySem PySem.Spec PyProof.Rows
section
variable {X : Cx} {o e : Expr} {es : List Expr} {to te : TE} {ta : TA} {f : Str} {p p' p1 p2 pos : Pos}
/-- C(e, ..), C's own __init__ keeping sp; nothing is handled -/
theorem pmk_oexN {CX : CXT} {x : Str} {C fI : Addr} {k : Nat} {fd : FuncData} {ps : List Str} {sp : Sp} {ds : List Value} {dvs : List V} (T : OexC X.K C) (iC : PySem.W.findIn X.K (.ref C) "__init__" = some (some (.ref fI))) (tI : PySem.W.typeIn X.K (.ref fI) = some (.type "function"))
    (F1 : FnOk X.prog X.w X.K X.mg X.base CX k fI fd ps sp) (hr : Room (k + 1) X.A) (hb : Binds X.K fd ps ds) (hd : Vals dvs ds) (hx : Passes CX X (fun _ _ _ => False)) (hg : Gl X x) (hm : X.mg x = some (.ref C)) (ha : PA X (e :: es) ta)
    (hdb : (x == ("__debug__" : Str)) = false) (he : starEach (e :: es) X.env = (false, eval e X.env) :: starEach es X.env) (hpl : (backTo pos (starEach es X.env)).any (·.1) = false) :
    L2N.PMk X (.Call (.Name x p) (e :: es) [] pos) (tMkO C sp dvs ta) := by
  intro pins s σ H Q I h
  obtain ⟨nm, q, N, bs, bm, sn, sub, ab, col, dd, k0, k1, k2, k3, k5, hC, hbm⟩ := T.cls
  refine wpAny_Call_Name_kw (ld_glob I hg hm ?_ hdb)
  refine PySem.W.callWith_K (h₀ := X.base) I.ok.mod.kin T.kC (thn (ha.run pos pins s σ H _ I h) fun us s1 ⟨vs, H1, I1, r1, hz, q1⟩ => ⟨I1.kIn, ?_⟩) he hpl
  show wpAny _ _ (call (.ref C) us) _ _ _
  obtain ⟨hp, g, dr, tk, os⟩ := s1
  have hsz : hp.objs.size ≤ hp.objs.size + 1 := Nat.le_succ _
  have hn : H1 (hp.objs.size + 1) = none := I1.hok.fresh hsz
  have hq := q1 (hp.objs.size + 1) hn
  have kk : ∀ b o, hp.get? b = some o → ((hp.push (PySem.W.kdv_tup us)).push (PySem.HandSPX.excO C hp.objs.size)).get? b = some o := fun b o e => Heap.get?_push_of_some _ (Heap.get?_push_of_some _ e)
  have hget : ((hp.push (PySem.W.kdv_tup us)).push (PySem.HandSPX.excO C hp.objs.size)).get? (hp.objs.size + 1) = some (PySem.HandSPX.excO C hp.objs.size) := by heap_get
  have I2 : Inv X pins σ (upd H1 (hp.objs.size + 1) (exo (hp.objs.size + 1) C none)) ⟨(hp.push (PySem.W.kdv_tup us)).push (PySem.HandSPX.excO C hp.objs.size), g, dr, tk, os⟩ :=
    I1.laid (t' := tk) (a := hp.objs.size + 1) (o := exo (hp.objs.size + 1) C none) (h' := (hp.push (PySem.W.kdv_tup us)).push (PySem.HandSPX.excO C hp.objs.size)) kk hsz (exo_ok hget)
  have r2 : Vals (V.ref (hp.objs.size + 1) :: (vs ++ dvs)) (Value.ref (hp.objs.size + 1) :: (us ++ ds)) := .cons rfl (r1.append hd)
  have hl : (Value.ref (hp.objs.size + 1) :: us ++ ds).length = ps.length := by
    have e := r2.length
    rw [F1.len _ _ _ _ hq] at e
    exact e.symm
  have hus : us.length ≤ sizeLine := by
    rw [← Paired.length r1, sizeLine_eq]
    omega
  refine wpAny_call (PySem.HandSPX.call_own F.excBase_ValueError (fun Y => PySem.HandSPX.refsVE_contains Y bm hbm) (I1.kIn _ _ hC) (PySem.W.looks_findIn I1.kIn iC) (fun self => PySem.W.bind_fn I1.kIn self tI) hus
    (codeAny_mono (F1.run _ X.stack _ _ ⟨Value.ref (hp.objs.size + 1) :: us, []⟩ (Value.ref (hp.objs.size + 1) :: (us ++ ds)) _ _ (fun _ _ _ => False) (hr.make C us []) (I2.env0.make C us []) (hb _ (Value.ref (hp.objs.size + 1) :: us) I2.kIn hl) r2 hq) fun r s' hq' => ?_))
  cases r with
  | error er => exact hx pins σ _ _ er s' I2 hq'
  | ok fl =>
    cases fl with
    | ret u =>
      obtain ⟨v, H2, os2, bare2, un2, hok2, rv, ev, d, fs, ea, ed, hd1, q2⟩ := hq'
      subst ev
      obtain ⟨h2, g2, d2, t2, os'⟩ := s'
      obtain ⟨t0, G, J, kG, ge, hoe, na⟩ := mk_end0 (d2 := d2) (t2 := t2) I1 hsz kk un2 hok2 os2 bare2 ea ed hd1
      exact ⟨rv, _, _, _, ⟨G, g2, d2, t2, os'⟩, _, .ref C, some d, rfl, J, kG, ge, hoe, ⟨rfl, rfl, fun vs e => by cases e; rfl⟩, rfl, rfl, na, rfl, bare2, raises_own T.exC T.tyC, q2⟩
    | next => exact False.elim hq'
    | brk => exact False.elim hq'
    | cont => exact False.elim hq'
end
end L2
set_option Elab.async false
set_option linter.all false
set_option maxRecDepth 100000
set_option maxHeartbeats 4000000
/-! Nxa: an __init__ that keeps one attribute; raise C(e); try: return f(x) except C as e: return e.line. -/
namespace Mi
open PySem PySem.Spec PyProof.Rows L2 RZ
def spI (K : PySem.W.Frag) (f : Str) : Sp := fun vs H Q E => ∃ (a C : Addr) (i : Int), vs = [.ref a, .int i] ∧ OexC K C ∧ PySem.W.findIn K (.ref C) f = some none ∧ H a = some (exo a C none) ∧
  ∀ dx, H dx = none → dx ≠ a → Q .non (upd (upd H dx (exd dx [(f, .int i)])) a (exo a C (some dx)))
/-- what is known of a class of exceptions with an attribute, made by its own __init__ -/
structure XcD (P : Program) (w : World) (K : PySem.W.Frag) (mg : Str → Option Value) (base : Heap) (j : Nat) (c : Str) (C : Addr) : Prop where
  gl : mg c = some (.ref C)
  ox : OexC K C
  no : PySem.W.findIn K (.ref C) (xattr c) = some none
  ini : ∃ fI fd ps, PySem.W.findIn K (.ref C) "__init__" = some (some (.ref fI)) ∧ PySem.W.typeIn K (.ref fI) = some (.type "function") ∧ Binds K fd ps [] ∧ FnOk P w K mg base (L2N.CX P w) j fI fd ps (spI K (xattr c))
section
variable {X : Cx} {T : TW} {W : WX} {pos : Pos}
theorem upd_del {H : Hp} {a d : Addr} {o u v : HO} (ha : H a = none) (hd : H d = none) (hne : d ≠ a) : upd (del (upd (upd (upd H a o) d u) a v) a) d (.xd fs) = upd H d (.xd fs) := by
  funext b
  by_cases h1 : b = d
  · rw [h1, upd_same, upd_same]
  · rw [upd_ne h1, upd_ne h1]
    by_cases h2 : b = a
    · rw [h2, del_same, ha]
    · rw [del_ne h2, upd_ne h2, upd_ne h1, upd_ne h2]
theorem s_raisep {c : Str} {C : Addr} {e : Expr} {ce : E} {p : Pos} {p2 : Pos} {j : Nat} (hc : X.calm = true) (tk : L2N.Takes X W) (D : XcD X.prog X.w X.K X.mg X.base j c C) (hr : Room (j + 1) X.A) (hg : Gl X c) (hdb : (c == ("__debug__" : Str)) = false) (he : PE X e (tE X.K X.mg T W ce)) (hs : starEach [e] X.env = [(false, eval e X.env)]) :
    PS X (.Raise (some (.Call (.Name c p) [e] [] p2)) none pos) (tS X.K X.mg T W (.raisep c ce)) := by
  obtain ⟨fI, fd, ps, i1, i2, i3, i4⟩ := D.ini
  refine PS.imp (L2N.ps_raise hc tk (pmk_oexN (sp := spI X.K (xattr c)) (dvs := []) D.ox i1 i2 i4 hr i3 .nil (fun pins σ H s e s' I ⟨_, _, _, _, _, _, _, _, _, _, _, _, z⟩ => z.elim) hg D.gl (pa_cons he pa_nil hs) hdb hs rfl)) fun E σ H h => ?_
  obtain ⟨ι, Zo, Zf, μ, δ, s, hp⟩ := h
  simp only [ex] at hp
  refine ⟨ι, Zo ++ Zf, Zf, μ, δ, s.g, s.s, hp.thenE s fun x μ1 ι1 v H1 e1 r1 s1 h1 => ?_⟩
  cases x with
  | int i =>
    have r1' : v = V.int i := r1
    subst r1'
    refine ⟨by show 1 ≤ 1000; decide, fun a ha => ⟨a, C, i, rfl, D.ox, D.no, upd_same, fun dx hdx hne => ⟨rfl, dx, [(xattr c, .int i)], upd_same, by rw [upd_ne hne, upd_same], ?_, ?_⟩⟩⟩
    · rw [upd_ne hne] at hdx; exact hdx
    · have hd1 : H1 dx = none := by rw [upd_ne hne] at hdx; exact hdx
      rw [upd_del ha hd1 hne]
      have h2 : pS X.K X.mg T W (some (.ex (c, some (.int i)), δ, μ1)) ι1 Zo Zf H1 E := h1
      exact h2 ι1 Zf σ _ (ext_fresh hd1) (fun _ z => .inl z) ⟨s1.g.fresh hd1, s1.s.ext s1.g (ext_fresh hd1), s1.dj⟩ _ _ ⟨⟨C, D.gl, rfl⟩, dx, rfl, upd_same⟩
  | _ => exact h1.elim
end
/-! ### try: return f(x) except C as e: return e.line -/
end Mi
set_option Elab.async false
set_option linter.all false
set_option maxRecDepth 100000
set_option maxHeartbeats 4000000
/-! Nb: the ends of iterators while an exception is handled. -/
namespace Mh
open PySem PySem.Spec PyProof.Rows HotX
section
variable {prog : Program} {w : World} {A : Around} {E : Value → Shared → Prop} {s : Shared} {x1 : Addr}
theorem hot_ext {h h' : Heap} (c : HotAt A x1 h) (k : ∀ o, h.get? x1 = some o → h'.get? x1 = some o) : HotAt A x1 h' := by
  obtain ⟨a, o, vs, b, d⟩ := c
  exact ⟨a, o, vs, k _ b, d⟩
theorem hot_in {h : Heap} (c : HotAt A x1 h) : HotAt A.in1 x1 h := c
/-- raise StopIteration, of a built-in's own -/
theorem stop_hot {α : Type} {Q : α → Shared → Prop} (c : HotAt A x1 s.heap)
    (hE : ∀ h' e, (∀ b o, s.heap.get? b = some o → h'.get? b = some o) → (∃ o, h'.get? e = some o ∧ o.cls = .type "StopIteration") → E (.ref e) { s with heap := h' }) :
    wpAny (model prog w) A (newExc (.type "StopIteration") []) (fun e s' => wpAny (model prog w) A (raiseNew e : Sem α) Q E s') E s := by
  obtain ⟨hh, o1, vs1, g1, d1, c1⟩ := c
  simp only [newExc, newTuple]
  refine wpAny_bind (wpAny_newObj_type (wpAny_bind (m := firstArgMember _ _) (wpAny_of_eq (a := Value.none) (by first | rfl | (simp only [firstArgMember]; rfl)) (wpAny_newObj_type ?_ (by size_fits)))) (by size_fits))
  refine raiseNew_hot (x1 := x1) ⟨hh, o1, vs1, Heap.get?_push_of_some _ (Heap.get?_push_of_some _ g1), d1, c1⟩ (Nat.ne_of_lt (Heap.lt_size (Heap.get?_push_of_some _ g1))) (Heap.get?_push_size _ rfl) rfl (by first | (simp; done) | (simp; omega) | (simp only [Array.size_append]; simp; omega)) ?_
  refine hE _ _ (fun b o e => ?_) ⟨_, Heap.get?_update_self _ (Heap.get?_push_size _ rfl) rfl, rfl⟩
  rw [Heap.get?_update_other _ _ (Nat.ne_of_gt (Heap.lt_size (Heap.get?_push_of_some _ e)))]
  exact Heap.get?_push_of_some _ (Heap.get?_push_of_some _ e)
theorem ne_iter {h : Heap} {it l : Addr} {i : Nat} (c : HotAt A x1 h) (hit : h.IsListIter it l i) : x1 ≠ it := by
  rintro rfl
  obtain ⟨_, o, vs, e, d, q⟩ := c
  obtain ⟨o', e', _, d'⟩ := hit
  rw [e] at e'
  cases e'
  rw [d] at d'
  cases d'
  simp at q
theorem nextOf_list_end_hot {it l : Addr} {i : Nat} {items} {Q : Value → Shared → Prop} (c : HotAt A x1 s.heap) (hit : s.heap.IsListIter it l i) (hl : s.heap.IsList l items) (hx : items[i]? = none)
    (hE : ∀ h' e, Heap.ExtBut it s.heap h' → (∃ o, h'.get? e = some o ∧ o.cls = .type "StopIteration") → E (.ref e) { s with heap := h' }) : wpAny (model prog w) A (Builtin.SmallTypes.nextOf (.ref it)) Q E s := by
  have ne := ne_iter c hit
  obtain ⟨o, ho, hc, hd⟩ := id hit
  obtain ⟨ol, hol, _, nl, hdl⟩ := hl
  unfold Builtin.SmallTypes.nextOf
  refine wpAny_bind (wpAny_callSpecial?_slot (name := Str.ofString "__next__") hit.typeIs slot_listiter_next (wpAny_call_entry slot_listiter_next hit.typeIs entry_listiter_next ?_ (args_listiter_next _)))
  show wpAny _ _ (field (.ref it) 0 >>= _) _ _ s
  refine wpAny_bind (wpAny_field ho hd (x := .ref l) rfl ?_)
  show wpAny _ _ (if (Value.ref l == Value.none) = true then _ else _) _ _ s
  rw [if_neg (show ¬ ((Value.ref l == Value.none) = true) from Bool.false_ne_true)]
  refine wpAny_bind (wpAny_field ho hd (x := .int i 0) rfl (wpAny_bind (wpAny_seqItems hol hdl ?_)))
  simp only [Int.toNat_natCast, hx]
  refine wpAny_bind (wpAny_rule (wpAny_bind (wpAny_setField ho hd (by simp) ?_)))
  refine wpAny_bind (stop_hot (x1 := x1) (hot_ext (hot_in c) fun b e => ?_) fun h' e k he => hE h' e (fun b o' nb q => k b o' ?_) he)
  · rw [Heap.get?_update_other _ _ ne.symm]; exact e
  · exact (Heap.SameBut.update ..).extBut b o' nb q
theorem ne_zip {h : Heap} {z TI TO : Addr} {f0 : Value} (c : HotAt A x1 h) (hz : IsZip h z TI TO f0) : x1 ≠ z := by
  rintro rfl
  obtain ⟨_, o, vs, e, d, q⟩ := c
  rw [show h.get? x1 = _ from hz] at e
  cases e
  cases d
  simp at q
/-- zip's end, both lists -/
theorem zip_end_hot {z TI TO i1 i2 l1 l2 : Addr} {k1 : Nat} {xs : Array Value} {a b : Value} {Q : Fin → Shared → Prop} (c : HotAt A x1 s.heap) (D : ZipApart z TI TO i1 i2 l1 l2) (hz : IsZip s.heap z TI TO .none) (hTI : IsPair s.heap TI (.ref i1) (.ref i2)) (hTO : IsPair s.heap TO a b)
    (h1 : s.heap.IsListIter i1 l1 k1) (hl1 : s.heap.IsList l1 xs) (hend : xs[k1]? = none)
    (hE : ∀ h' e, (∀ c o, c ≠ z → c ≠ TO → c ≠ i1 → c ≠ i2 → s.heap.get? c = some o → h'.get? c = some o) → (∃ o, h'.get? e = some o ∧ o.cls = .type "StopIteration") → E (.ref e) { s with heap := h' }) :
    wpAny (model prog w) A (Builtin.«zip.__next__» ⟨[.ref z], []⟩) Q E s := by
  have nz := ne_zip c hz
  show wpAny _ _ (field (.ref z) 2 >>= _) _ _ _
  refine wpAny_bind (wpAny_field hz rfl (x := .bool false) rfl (wpAny_bind (wpAny_field hz rfl (x := .ref TI) rfl (wpAny_bind (wpAny_seqItems hTI rfl ?_)))))
  show wpAny _ _ (Builtin.SmallTypes.ownedTupleIsFree (.ref z) >>= _) _ _ _
  refine wpAny_bind ?_
  unfold Builtin.SmallTypes.ownedTupleIsFree
  refine wpAny_bind (wpAny_field hz rfl (x := .none) rfl (wpAny_pure ?_))
  simp only [if_true]
  refine wpAny_bind (wpAny_rule (wpAny_bind (wpAny_field hz rfl (x := .ref TO) rfl (wpAny_bind (wpAny_setField_rec hz (by simp) fun h₁ hz₁ hs₁ => ?_)))))
  replace hz₁ : IsZip h₁ z TI TO .ellipsis := hz₁
  refine wpAny_bind ?_
  simp only [List.zipIdx_cons, List.zipIdx_nil, List.forIn_cons, List.forIn_nil]
  refine wpAny_bind (wpAny_bind (wpAny_onRaise ?_))
  show wpAny _ _ (Builtin.SmallTypes.nextOf (.ref i1) >>= _) _ _ _
  refine wpAny_bind (nextOf_list_end_hot (x1 := x1) (hot_ext c fun o q => hs₁.extBut _ _ nz q) (h1.extBut hs₁.extBut D.i1z) (hl1.extBut hs₁.extBut D.l1z) hend fun h₂ e hs₂ he => ?_)
  obtain ⟨oe, hoe, hce⟩ := he
  have hz₂ : IsZip h₂ z TI TO .ellipsis := hs₂ _ _ D.i1z.symm hz₁
  have hez : e ≠ z := fun x => by subst x; rw [hz₂] at hoe; cases hoe; simp at hce
  exact wpAny_setField_rec hz₂ (by simp) fun h₃ _ hs₃ => hE h₃ e (fun c o c1 _ c3 _ x => hs₃.extBut _ _ c1 (hs₂ _ _ c3 (hs₁.extBut _ _ c1 x))) ⟨oe, hs₃.extBut _ _ hez hoe, hce⟩
theorem next_zip_end_hot {z TI TO i1 i2 l1 l2 : Addr} {k1 : Nat} {xs : Array Value} {a b : Value} {Q : Option Value → Shared → Prop} (c : HotAt A x1 s.heap) (D : ZipApart z TI TO i1 i2 l1 l2) (hz : IsZip s.heap z TI TO .none) (hTI : IsPair s.heap TI (.ref i1) (.ref i2)) (hTO : IsPair s.heap TO a b)
    (h1 : s.heap.IsListIter i1 l1 k1) (hl1 : s.heap.IsList l1 xs) (hend : xs[k1]? = none)
    (hQ : ∀ h', (∀ c o, c ≠ z → c ≠ TO → c ≠ i1 → c ≠ i2 → s.heap.get? c = some o → h'.get? c = some o) → Q none { s with heap := h' }) : wpAny (model prog w) A (pyNext (.ref z)) Q E s := by
  have hT : s.TypeIs (.ref z) "zip" := ⟨_, hz, rfl⟩
  unfold pyNext
  refine wpAny_bind (wpAny_attempt (wpAny_callSpecial?_slot (name := Str.ofString "__next__") hT F.slot_zip_next (wpAny_call_entry F.slot_zip_next hT F.entry_zip_next (zip_end_hot (x1 := x1) (hot_in c) D hz hTI hTO h1 hl1 hend fun h' e hk he => ?_) (F.args_zip_next_1 _))))
  obtain ⟨o, ho, hc⟩ := he
  exact wpAny_bind (wpAny_isInstance (T := "StopIteration") (b := true) ⟨o, ho, hc⟩ isSubtype_stop (wpAny_pure (hQ _ hk)))
/-- a tuple's end -/
theorem ne_tupIter {h : Heap} {it t : Addr} {i : Nat} (c : HotAt A x1 h) (hit : IsTupIter h it t i) : x1 ≠ it := by
  rintro rfl
  obtain ⟨_, o, vs, e, d, q⟩ := c
  obtain ⟨o', e', _, d'⟩ := hit
  rw [e] at e'
  cases e'
  rw [d] at d'
  cases d'
  simp at q
theorem next_tuple_end_hot {it t : Addr} {i : Nat} {items} {Q : Option Value → Shared → Prop} (c : HotAt A x1 s.heap) (hit : IsTupIter s.heap it t i) (ht : IsTup s.heap t items) (hx : items[i]? = none)
    (hQ : ∀ h', Heap.ExtBut it s.heap h' → Q none { s with heap := h' }) : wpAny (model prog w) A (pyNext (.ref it)) Q E s := by
  have ne := ne_tupIter c hit
  obtain ⟨o, ho, hc, hd⟩ := id hit
  obtain ⟨ol, hol, _, nl, hdl⟩ := ht
  unfold pyNext
  refine wpAny_bind (wpAny_attempt (wpAny_callSpecial?_slot (name := Str.ofString "__next__") hit.typeIs slot_tupleiter_next (wpAny_call_entry slot_tupleiter_next hit.typeIs entry_tupleiter_next ?_ (args_tupleiter_next _))))
  show wpAny _ _ (field (.ref it) 0 >>= _) _ _ s
  refine wpAny_bind (wpAny_field ho hd (x := .ref t) rfl ?_)
  show wpAny _ _ (if (Value.ref t == Value.none) = true then _ else _) _ _ s
  rw [if_neg (show ¬ ((Value.ref t == Value.none) = true) from Bool.false_ne_true)]
  refine wpAny_bind (wpAny_field ho hd (x := .int i 0) rfl (wpAny_bind (wpAny_seqItems hol hdl ?_)))
  simp only [Int.toNat_natCast, hx]
  refine wpAny_bind (wpAny_rule (wpAny_bind (wpAny_setField ho hd (by simp) ?_)))
  refine wpAny_bind (stop_hot (x1 := x1) (hot_ext (hot_in c) fun b e => ?_) fun h' e k he => ?_)
  · rw [Heap.get?_update_other _ _ ne.symm]; exact e
  · obtain ⟨oe, hoe, hce⟩ := he
    exact wpAny_bind (wpAny_isInstance (T := "StopIteration") (b := true) ⟨oe, hoe, hce⟩ isSubtype_stop (wpAny_pure (hQ h' fun b o' nb q => k b o' ((Heap.SameBut.update ..).extBut b o' nb q))))
theorem unpackItems_hot {t : Addr} {items : Array Value} {Q : List Value → Shared → Prop} (c : HotAt A x1 s.heap) (ht : IsTup s.heap t items)
    (hQ : ∀ h', Heap.ExtBut s.heap.objs.size s.heap h' → Q items.toList { s with heap := h' }) : wpAny (model prog w) A (unpackItems (.ref t) items.size none) Q E s := by
  have hlt : t ≠ s.heap.objs.size := by obtain ⟨o, ho, _⟩ := ht; exact Nat.ne_of_lt (Heap.lt_size ho)
  have nx : x1 ≠ s.heap.objs.size := by obtain ⟨_, o, vs, e, _⟩ := c; exact Nat.ne_of_lt (Heap.lt_size e)
  unfold unpackItems
  refine wpAny_bind ?_
  unfold notIterableAtAll
  refine wpAny_bind (wpAny_specialOf ht.typeIs slot_tuple_iter.lookup (wpAny_pure ?_))
  simp only [Bool.false_eq_true, if_false]
  refine wpAny_bind (wpAny_holding (iter_tuple ht (wpAny_bind (wpAny_holding (draw_tuple hlt items.size 0 _ _ ⟨_, Heap.get?_push_size _ rfl, rfl, rfl⟩ (ht.push _) (by omega) fun h₁ hit₁ hs₁ => ?_)))))
  have hall : List.take items.size (List.drop 0 items.toList) = items.toList := by rw [List.drop_zero]; exact List.take_of_length_le (by simp)
  rw [hall, if_neg (by simp)]
  refine wpAny_bind (wpAny_holding (next_tuple_end_hot (x1 := x1) (hot_ext c fun o e => hs₁.extBut _ _ nx (Heap.get?_push_of_some _ e)) hit₁ ((ht.push _).extBut hs₁.extBut hlt) (by simp) fun h₂ he₂ => ?_))
  simp only [Option.isSome_none, Bool.false_eq_true, if_false]
  exact wpAny_pure (hQ h₂ fun b o hb e => he₂ b o hb (hs₁.extBut b o hb (Heap.get?_push_of_some _ e)))
theorem assign_Tuple_hot {env : Env} {elts : List Expr} {k} {pos : Pos} {t : Addr} {items : Array Value} {Q : Unit → Shared → Prop} (c : HotAt A x1 s.heap) (ht : IsTup s.heap t items) (hn : (assignEach elts env).length = items.size) (hstar : (assignEach elts env).findIdx? (·.1) = none)
    (h : ∀ h', Heap.ExtBut s.heap.objs.size s.heap h' → wpAny (model prog w) A (assignInOrder ((assignEach elts env).map (·.2)) items.toList) Q E { s with heap := h' }) : wpAny (model prog w) A (assign (.Tuple elts k pos) env (.ref t)) Q E s := by
  rw [assign_Tuple]
  refine wpAny_bind (wpAny_standAt ?_)
  unfold unpack
  rw [hn, hstar]
  exact wpAny_bind (wpAny_holding (unpackItems_hot c ht h))
end
end Mh
set_option Elab.async false
set_option linter.all false
set_option maxRecDepth 100000
set_option maxHeartbeats 4000000
/-! Nc: list comprehensions over zip, and pairs unpacked, while an exception is handled. -/
namespace Mh
open PySem PySem.Spec PyProof.Rows HotX L2 L2H
abbrev St := L2.St
/-- wherever the context holds, the handled exception stands bare -/
def HotI (X : Cx) : Prop := ∀ (pins : List (Addr × Obj)) (σ : St) (H : Hp) (s : Shared), Inv X pins σ H s → ∃ x1, HotAt X.A x1 s.heap
theorem HotI.of {X : Cx} (c : HotC X) : HotI X := fun _ _ _ _ I => c.at I
theorem HotI.blk {X : Cx} (c : HotC X) {pins : List (Addr × Obj)} {σ : St} {H : Hp} {s : Shared} {scope : Scope} {e : Env} {fp : List Addr} (I : Inv X pins σ H s) (hf : ∀ b ∈ fp, FpOk X pins H b) : HotI (X.blk s H scope e fp) := fun pins' σ' H' s' I' => by
  obtain ⟨p, ⟨hh, v1, e1, c1⟩, hp⟩ := c
  obtain ⟨a1, a2, a3, a4, a5⟩ := I.pin p (List.mem_append_left _ hp)
  refine ⟨p.1, hh, p.2, v1, I'.base.keep p.1 p.2 a1 a2 (fun z => ?_) (fun z => ?_), e1, c1⟩
  · exact (List.mem_cons.mp (I.stkSub p.1 z)).elim a3 a4
  · obtain ⟨_, _, _, _, _, f5⟩ := hf _ z
    exact f5 p (List.mem_append_left _ hp) rfl
/-- what an iterator does there -/
structure TurnI (P : Program) (w : World) (K : PySem.W.Frag) (tg : Expr) (J : It) (fp : List Addr) (it : Addr) (tn : Nat → Heap → Prop) : Prop where
  obj : ∀ i h, tn i h → ∀ b ∈ fp, ∃ o, h.get? b = some o ∧ ∀ v, o.data ≠ .cell v
  keep : ∀ i h h', tn i h → (∀ b ∈ fp, ∀ o, h.get? b = some o → h'.get? b = some o) → tn i h'
  item : ∀ (X : Cx), X.prog = P → X.w = w → X.K = K → HotI X → ∀ (i : Nat) (pins : List (Addr × Obj)) (s : Shared) (σ : St) (H : Hp) (E : Value → Shared → Prop), Inv X pins σ H s → (∀ b ∈ fp, FpOk X pins H b) → tn i s.heap → J.go i H →
    wpAny (model P w) X.A (pyNext (.ref it)) (fun r s1 => ∃ u, r = some u ∧ wpAny (model P w) X.A (letOwnedTupleGo tg (.ref it) u) (fun _ s2 => ∃ x H', Inv X pins σ H' s2 ∧ RelV x u ∧ J.yld i H x H' ∧ tn (i + 1) s2.heap ∧ ∀ b ∈ fp, H' b = none) E s1) E s
  done : ∀ (X : Cx), X.prog = P → X.w = w → X.K = K → HotI X → ∀ (i : Nat) (pins : List (Addr × Obj)) (s : Shared) (σ : St) (H : Hp) (E : Value → Shared → Prop), Inv X pins σ H s → (∀ b ∈ fp, FpOk X pins H b) → tn i s.heap → J.stop i H →
    wpAny (model P w) X.A (pyNext (.ref it)) (fun r s1 => r = none ∧ Inv X pins σ H s1) E s
  self : ∀ (A : Around) (i : Nat) (s : Shared) (Q : Value → Shared → Prop) (E : Value → Shared → Prop), tn i s.heap → Q (.ref it) s → wpAny (model P w) A (pyIter (.ref it)) Q E s
/-- two lists, the first one no longer than the other -/
def Itq (K : PySem.W.Frag) (a b : Addr) : It := ⟨fun i H => ∃ (xs ys : List V) (x y : V), SqL K H a xs ∧ SqL K H b ys ∧ xs[i]? = some x ∧ ys[i]? = some y,
  fun i H v H' => ∃ T x y, v = .ref T ∧ H T = none ∧ H' = upd H T (.tup [x, y]) ∧ (∀ xs, SqL K H a xs → xs[i]? = some x) ∧ ∀ ys, SqL K H b ys → ys[i]? = some y,
  fun i H => ∃ xs : List V, SqL K H a xs ∧ xs.length ≤ i⟩
theorem turn_zipI {P : Program} {w : World} {K : PySem.W.Frag} {elts : List Expr} {kk : Nat} {tpos : Pos} {a b z TI TO i1 i2 : Addr} (D : ZipApart z TI TO i1 i2 a b) :
    TurnI P w K (.Tuple elts kk tpos) (Itq K a b) [z, TI, TO, i1, i2] z (fun i h => IsZip h z TI TO .none ∧ IsPair h TI (.ref i1) (.ref i2) ∧ (∃ x y, IsPair h TO x y) ∧ h.IsListIter i1 a i ∧ h.IsListIter i2 b i) where
  obj := fun i h st c hc => by
    obtain ⟨hz, hTI, ⟨x, y, hTO⟩, ⟨o1, e1, _, d1⟩, ⟨o2, e2, _, d2⟩⟩ := st
    rcases (by simpa using hc : c = z ∨ c = TI ∨ c = TO ∨ c = i1 ∨ c = i2) with rfl | rfl | rfl | rfl | rfl
    · exact ⟨_, hz, fun v q => nomatch q⟩
    · exact ⟨_, hTI, fun v q => nomatch q⟩
    · exact ⟨_, hTO, fun v q => nomatch q⟩
    · exact ⟨o1, e1, fun v q => by rw [d1] at q; cases q⟩
    · exact ⟨o2, e2, fun v q => by rw [d2] at q; cases q⟩
  keep := fun i h h' st k => by
    obtain ⟨hz, hTI, ⟨x, y, hTO⟩, h1, h2⟩ := st
    exact ⟨k z (by simp) _ hz, k TI (by simp) _ hTI, ⟨x, y, k TO (by simp) _ hTO⟩, h1.at fun o q => k i1 (by simp) o q, h2.at fun o q => k i2 (by simp) o q⟩
  item := by
    intro X hP hw hK hc i pins s σ H E I hf st hg
    subst hP hw hK
    obtain ⟨hz, hTI, ⟨x0, y0, hTO⟩, h1, h2⟩ := st
    obtain ⟨xs, ys, x, y, hqx, hqy, hx, hy⟩ := hg
    obtain ⟨its, rv, p, _⟩ := I.list hqx
    obtain ⟨its2, rv2, p2, _⟩ := I.list hqy
    obtain ⟨u, hu, ru⟩ := rv.get hx
    obtain ⟨u2, hu2, ru2⟩ := rv2.get hy
    have hzl : z < s.heap.objs.size := Heap.lt_size hz
    refine wpAny_pyNext_zip_item D hz hTI hTO h1 h2 p.isList p2.isList (x := u) (y := u2) (by simpa using hu) (by simpa using hu2) fun h' z' TO' h1' h2' hT hsz hk => ?_
    refine ⟨_, rfl, wpAny_letOwnedTupleGo_zip (s := { s with heap := h' }) z' fun h'' z'' sb => ?_⟩
    have hT2 : h''.get? s.heap.objs.size = some { cls := .type "tuple", data := .seq #[u, u2] } := (sb.2 _ (Nat.ne_of_gt hzl)).trans hT
    have new : ObjOk X.prog X.w (upd H s.heap.objs.size (.tup [x, y])) h'' s.heap.objs.size (.tup [x, y]) := ⟨by show 2 ≤ sizeLine; decide, [u, u2], .cons ru (.cons ru2 .nil), ⟨_, hT2, rfl, _, rfl⟩⟩
    have I1 : Inv X pins σ (upd H s.heap.objs.size (.tup [x, y])) { s with heap := h'' } := I.turnedNew (t' := s.toks) (ch := [z, TI, TO, i1, i2])
      (fun c o hb q => (sb.2 c (fun q' => hb (by simp [q']))).trans (hk c o (fun q' => hb (by simp [q'])) (fun q' => hb (by simp [q'])) (fun q' => hb (by simp [q'])) (fun q' => hb (by simp [q'])) q)) hf (Nat.le_refl _) new
    refine ⟨.ref s.heap.objs.size, _, I1, rfl, ⟨_, x, y, rfl, I.hok.fresh (Nat.le_refl _), rfl, fun l hl => by rw [I.list_inj hl hqx]; exact hx, fun l hl => by rw [I.list_inj hl hqy]; exact hy⟩,
      ⟨z'', (sb.2 _ D.TIz).trans (hk _ _ D.TIz D.TITO D.TIi1 D.TIi2 hTI), ⟨u, u2, (sb.2 _ D.TOz).trans TO'⟩, h1'.at fun o q => (sb.2 _ D.i1z).trans q, h2'.at fun o q => (sb.2 _ D.i2z).trans q⟩, fun c hcm => ?_⟩
    have hlt : c < s.heap.objs.size := by
      rcases (by simpa using hcm : c = z ∨ c = TI ∨ c = TO ∨ c = i1 ∨ c = i2) with rfl | rfl | rfl | rfl | rfl
      · exact hzl
      · exact Heap.lt_size hTI
      · exact Heap.lt_size hTO
      · obtain ⟨_, e1, _⟩ := h1; exact Heap.lt_size e1
      · obtain ⟨_, e2, _⟩ := h2; exact Heap.lt_size e2
    rw [upd_ne (Nat.ne_of_lt hlt)]
    exact (hf c hcm).1
  done := by
    intro X hP hw hK hc i pins s σ H E I hf st hg
    subst hP hw hK
    obtain ⟨hz, hTI, ⟨x0, y0, hTO⟩, h1, h2⟩ := st
    obtain ⟨xs, hqx, hend⟩ := hg
    obtain ⟨its, rv, p, _⟩ := I.list hqx
    have l1 := rv.length
    obtain ⟨x1, hot⟩ := hc _ _ _ _ I
    exact next_zip_end_hot hot D hz hTI hTO h1 p.isList (by simp; omega) fun h' hk => ⟨rfl, I.turnedL (t' := s.toks) (ch := [z, TI, TO, i1, i2])
      (fun c o hb q => hk c o (fun q' => hb (by simp [q'])) (fun q' => hb (by simp [q'])) (fun q' => hb (by simp [q'])) (fun q' => hb (by simp [q'])) q) hf⟩
  self := fun A i s Q E st h => wpAny_pyIter_zip st.1 h
def PIIE (X : Cx) (pins : List (Addr × Obj)) (σ : St) (tg : Expr) (R : It → Hp → Prop) (itv : Value) (s2 : Shared) : Prop :=
  ∃ (it : Addr) (fp : List Addr) (tn : Nat → Heap → Prop) (J : It) (H' : Hp), itv = .ref it ∧ Inv X pins σ H' s2 ∧ TurnI X.prog X.w X.K tg J fp it tn ∧ tn 0 s2.heap ∧ (∀ b ∈ fp, FpOk X pins H' b) ∧ R J H'
structure PII (X : Cx) (tg iter : Expr) (wi : TI) : Prop where
  run : ∀ (pins : List (Addr × Obj)) (s : Shared) (σ : St) (H : Hp) (R : It → Hp → Prop), Inv X pins σ H s → wi σ H R → wpAny (model X.prog X.w) X.A (eval iter X.env) (fun v s1 => wpAny (model X.prog X.w) X.A (pyIter v) (PIIE X pins σ tg R) X.xe s1) X.xe s
def iZipq (K : PySem.W.Frag) (ta : TA) : TI := fun σ H R => ta σ H fun vs H1 => ∃ a b xs ys, vs = [.ref a, .ref b] ∧ SqL K H1 a xs ∧ SqL K H1 b ys ∧ R (Itq K a b) H1
theorem pi_zipI {X : Cx} {e e2 : Expr} {ta : TA} {p pos tpos : Pos} {elts : List Expr} {kk : Nat} (hg : Gl X "zip") (hm : X.mg "zip" = none) (ha : PA X [e, e2] ta)
    (hs : starEach [e, e2] X.env = (false, eval e X.env) :: starEach [e2] X.env := by rfl) (hpl : (backTo pos (starEach [e2] X.env)).any (·.1) = false := by rfl) :
    PII X (.Tuple elts kk tpos) (.Call (.Name "zip" p) [e, e2] [] pos) (iZipq X.K ta) := by
  refine ⟨fun pins s σ H R I h => Call_ (ld_blt I hg hm PyProof.Rows.boot_zip (PyProof.Rows.callWith_type1 (thn (ha.run pos pins s σ H _ I h) fun us s1 ⟨vs, H1, I1, r1, q1⟩ => ?_) hs hpl))⟩
  obtain ⟨a, b, xs, ys, rfl, hqx, hqy, q⟩ := q1
  obtain ⟨u1, u2, rfl, ru1, ru2⟩ : ∃ u1 u2, us = [u1, u2] ∧ RelV (.ref a) u1 ∧ RelV (.ref b) u2 := by
    cases r1 with
    | cons r rr => cases rr with
      | cons r' rr => cases rr; exact ⟨_, _, rfl, r, r'⟩
  cases ru1
  cases ru2
  obtain ⟨its, rv, p1, _⟩ := I1.list hqx
  obtain ⟨its2, rv2, p2, _⟩ := I1.list hqy
  have la : a < s1.heap.objs.size := p1.lt
  have lb : b < s1.heap.objs.size := p2.lt
  refine call_zip_2 p1.isList p2.isList fun h' hz hTI hTO h1 h2 hsz hk => wpAny_pyIter_zip hz ?_
  have I2 : Inv X pins σ H1 { s1 with heap := h' } := I1.kept (t' := s1.toks) hk
  refine ⟨_, [s1.heap.objs.size + 4, s1.heap.objs.size + 2, s1.heap.objs.size + 3, s1.heap.objs.size, s1.heap.objs.size + 1], _, _, H1, rfl, I2, turn_zipI (PySem.W.ktu_apart s1.heap.objs.size a b la lb), ⟨hz, hTI, ⟨_, _, hTO⟩, h1, h2⟩, fun c hcm => ?_, q⟩
  have hle : s1.heap.objs.size ≤ c := by
    rcases (by simpa using hcm : c = s1.heap.objs.size + 4 ∨ c = s1.heap.objs.size + 2 ∨ c = s1.heap.objs.size + 3 ∨ c = s1.heap.objs.size ∨ c = s1.heap.objs.size + 1) with z | z | z | z | z <;> rw [z] <;> first | exact Nat.le_refl _ | exact Nat.le_add_right _ _
  obtain ⟨f0, f1, f2, f3, f4, f5⟩ := I1.fpOk hle (I1.hok.fresh hle)
  exact ⟨f0, f1, f2, f3, f4, f5⟩
end Mh
set_option Elab.async false
set_option linter.all false
set_option maxRecDepth 100000
set_option maxHeartbeats 4000000
/-! Nd: a list comprehension while an exception is handled. -/
namespace Mh
open PySem PySem.Spec PyProof.Rows HotX L2 L2H
theorem pg_tupI {X : Cx} {es : List Expr} {k : Nat} {pos : Pos} {t : TGs} {n : Nat} (hc : HotI X) (h : PGs X es t) (hn : (assignEach es X.env).length = n := by rfl) (hst : (assignEach es X.env).findIdx? (·.1) = none := by rfl) : PG X (.Tuple es k pos) (gTup X.K n t) := by
  refine ⟨fun pins s σ H v u Q I r ⟨a, xs, e1, hq, hl, hw⟩ => ?_⟩
  subst e1
  cases r
  obtain ⟨its, rv, ht, hz⟩ := I.tuple hq
  obtain ⟨x1, hot⟩ := hc _ _ _ _ I
  exact assign_Tuple_hot hot ht (by simp [hn, ← hl, rv.length]) hst fun h' hx => h.run pins _ σ H xs _ Q (I.kept (t' := s.toks) fun b o e => hx b o (Nat.ne_of_lt (Heap.lt_size e)) e) (by simpa using rv) hw
theorem pe_lcI {X : Cx} {elt tg iter : Expr} {ifs : List Expr} {scope : Scope} {own : List (Str × Nat)} {pos : Pos} {wi : TI} {g : TG} {tt : TT} {te : TE} (hc : HotC X) (hN : X.N.Nodup) (hi : PII X tg iter wi) (ok : BlkOk X.N X.env.scope scope own)
    (hg : ∀ (s : Shared) (H : Hp) (C : Addr) (cl : List (Str × Addr)) (fp : List Addr), HotI (X.blk s H scope (compEnvC scope cl C X.env) fp) → PG (X.blk s H scope (compEnvC scope cl C X.env) fp) tg g) (ht : ∀ (s : Shared) (H : Hp) (C : Addr) (cl : List (Str × Addr)) (fp : List Addr), PTs (X.blk s H scope (compEnvC scope cl C X.env) fp) ifs tt)
    (he : ∀ (s : Shared) (H : Hp) (C : Addr) (cl : List (Str × Addr)) (fp : List Addr), PE (X.blk s H scope (compEnvC scope cl C X.env) fp) elt te) (hs : ∀ x, foldedSetIterable iter X.env x = pure x := by intro _; rfl) :
    PE X (.ListComp elt [⟨tg, iter, ifs, 0⟩] scope pos) (tLc wi g tt te (own.map (·.2))) := by
  refine ⟨fun pins s σ H Q I h => ?_⟩
  rw [eval_ListComp]
  have hfree : ∀ y ∈ scope.names, y.2 = .free → ∃ c, X.env.cells.lookup y.1 = some c := fun y hy e => (ok.free y hy e).elim (fun k => I.ok.has _ (.inl k)) (fun k => I.ok.has _ (.inr k))
  refine wpAny_comprehension_free rfl hs (closure_ok hfree) ok.kind (fun y hy e => by rw [ok.uniq y hy, e]) (thn (hi.run pins s σ H _ I h) fun xv s1 hx => thn hx fun itv s2 ⟨it, fp, tn, J, H2, e, I2, T, st2, f2, q⟩ => ?_)
  subst e
  refine wpAny_newObj_type (newEnv_comp ?_) (by show 0 ≤ sizeLine; decide)
  obtain ⟨D, hD⟩ : ∃ D, s2.heap.objs.size = D := ⟨_, rfl⟩
  rw [hD]
  have hDn : H2 D = none := I2.hok.fresh (Nat.le_of_eq hD)
  obtain ⟨W, ⟨m0, w0⟩, turn⟩ := q D hDn
  obtain ⟨s3, hs3⟩ : ∃ s3 : Shared, ({ s2 with heap := s2.heap.push { cls := .type "list", data := .seq ([] : List Value).toArray } } : Shared) = s3 := ⟨_, rfl⟩
  have I3 : Inv X pins σ (upd H2 D (.lst [])) s3 := by
    rw [← hs3]
    refine I2.laid (t' := s2.toks) (fun b o e => Heap.get?_push_of_some _ e) (Nat.le_of_eq hD) ⟨Nat.zero_le _, [], 0, .nil, ?_⟩
    rw [← hD]; exact Heap.get?_push_size _ rfl
  have h3 : s3.heap = s2.heap.push { cls := .type "list", data := .seq ([] : List Value).toArray } := by rw [← hs3]
  have f3 : ∀ b ∈ fp, FpOk X pins (upd H2 D (.lst [])) b ∧ b < s3.heap.objs.size := fun b hb => by
    obtain ⟨o, e, _⟩ := T.obj _ _ st2 b hb
    have hlt := Heap.lt_size e
    refine ⟨⟨?_, (f2 b hb).2⟩, by rw [h3, Heap.size_push]; exact Nat.lt_succ_of_lt hlt⟩
    rw [upd_ne (by rw [← hD]; exact Nat.ne_of_lt hlt)]; exact (f2 b hb).1
  have st3 : tn 0 s3.heap := T.keep _ _ _ st2 fun b _ o e => by rw [h3]; exact Heap.get?_push_of_some _ e
  have I4 := block_start I3 ok hN f3
  have hot4 := fun e => HotI.blk (scope := scope) (e := e) hc I3 fun b hb => (f3 b hb).1
  have pg := hg s3 (upd H2 D (.lst [])) s3.heap.objs.size (cellsFrom (s3.heap.objs.size + 1) scope.names (cloFrom X.env.cells scope.names [])) fp (hot4 _)
  have pt := ht s3 (upd H2 D (.lst [])) s3.heap.objs.size (cellsFrom (s3.heap.objs.size + 1) scope.names (cloFrom X.env.cells scope.names [])) fp
  have pe := he s3 (upd H2 D (.lst [])) s3.heap.objs.size (cellsFrom (s3.heap.objs.size + 1) scope.names (cloFrom X.env.cells scope.names [])) fp
  have hot5 := hot4 (compEnvC scope (cellsFrom (s3.heap.objs.size + 1) scope.names (cloFrom X.env.cells scope.names [])) s3.heap.objs.size X.env)
  rw [hs3]
  show codeAny _ _ (.compStart (.ListComp elt [⟨tg, iter, ifs, 0⟩] scope pos) 0 (.ref it) (.ref D) (compEnvC scope (cellsFrom (s3.heap.objs.size + 1) scope.names (cloFrom X.env.cells scope.names [])) s3.heap.objs.size X.env)) (compPost (model X.prog X.w) X.A X.xe _ (EP X pins σ Q) (.ref D) s3.heap.objs.size) { s3 with heap := pushCells (s3.heap.push { cls := .type "dict", data := .dict #[] }) scope.names }
  have nfp : ∀ b ∈ fp, (upd H2 D (.lst [])) b = none := fun b hb => (f3 b hb).1.1
  obtain ⟨ce, hce⟩ : ∃ ce, compEnvC scope (cellsFrom (s3.heap.objs.size + 1) scope.names (cloFrom X.env.cells scope.names [])) s3.heap.objs.size X.env = ce := ⟨_, rfl⟩
  rw [hce] at I4 pg pt pe hot5 ⊢
  have cL : ce.locals = s3.heap.objs.size := by subst hce; rfl
  obtain ⟨H3, hH3⟩ : ∃ H3, upd H2 D (.lst []) = H3 := ⟨_, rfl⟩
  rw [hH3] at I3 I4 pg pt pe w0 nfp f3 hot5
  obtain ⟨s4, hs4⟩ : ∃ s4 : Shared, ({ s3 with heap := pushCells (s3.heap.push { cls := .type "dict", data := .dict #[] }) scope.names } : Shared) = s4 := ⟨_, rfl⟩
  rw [hs4] at I4 ⊢
  have st4 : tn 0 s4.heap := T.keep _ _ _ st3 fun b _ o e => by rw [← hs4]; exact pushCells_keeps _ _ _ _ (Heap.get?_push_of_some _ e)
  have stat : ∀ {σ' : St} {H' : Hp} {s' : Shared}, Inv (X.blk s3 H3 scope ce fp) [] σ' H' s' → (∀ b ∈ fp, H' b = none) → ∀ b ∈ fp, FpOk (X.blk s3 H3 scope ce fp) [] H' b := fun {σ' H' s'} I' hn b hb =>
    ⟨hn b hb, (I'.ok.exf b hb).1, I'.ok.exfs b hb, .inl hb, fun x c e => (I'.ok.exf b hb).2 x c e, fun p hp => absurd (show p ∈ ([] : List (Addr × Obj)) ++ [] from hp) (by simp)⟩
  suffices loop : codeAny (model X.prog X.w) X.A (.compLoop (.ListComp elt [⟨tg, iter, ifs, 0⟩] scope pos) 0 (.ref it) (.ref D) ce) (compPost (model X.prog X.w) X.A X.xe none (EP X pins σ Q) (.ref D) s3.heap.objs.size) s4 from codeAny_compStart_list loop (T.self X.A 0 _ _ _ st4 loop)
  refine compLoop_any (fun n s' => ∃ i H', Inv (X.blk s3 H3 scope ce fp) [] (wipe σ (own.map (·.2))) H' s' ∧ tn i s'.heap ∧ (∀ b ∈ fp, H' b = none) ∧ W i n H') ?_ m0 ⟨0, H3, I4, st4, nfp, w0⟩
  rintro n s5 ⟨i, H5, I5, st5, n5, w5⟩
  rcases turn i n H5 w5 with ⟨stop, qq⟩ | ⟨go, Nx, hNx, step⟩
  · refine thnF (T.done (X.blk s3 H3 scope ce fp) rfl rfl rfl hot5 i [] s5 _ H5 (fun _ _ => False) I5 (stat I5 n5) st5 stop) fun r s6 ⟨hr, I6⟩ => ?_
    subst hr
    have I7 : Inv X pins σ H5 s6 := I3.call' (ch := fp) I6.os I6.base I6.hok I6.bare fun b hb => ⟨(f3 b hb).1.2.2.2.1, (f3 b hb).1.2.1, (f3 b hb).1.2.2.2.2.1, (f3 b hb).1.2.2.2.2.2⟩
    have nC : H5 s3.heap.objs.size = none := by have z : H5 ce.locals = none := I6.free; rw [cL] at z; exact z
    obtain ⟨m, hn, _⟩ := I6.loc
    have hn : s6.heap.Ns ce.locals m := hn
    rw [cL] at hn
    refine ⟨m, hn, fun h'' sb => ?_⟩
    obtain ⟨f0, f1, f2, f3, f4, f5⟩ := I3.fpOk (Nat.le_refl _) nC
    exact ⟨.ref D, H5, I7.turned (t' := s6.toks) (fun b o hb e => (sb.2 b hb).trans e) f0 f1 f3 f4 f5, rfl, qq⟩
  · refine thnF (T.item (X.blk s3 H3 scope ce fp) rfl rfl rfl hot5 i [] s5 _ H5 (fun _ _ => False) I5 (stat I5 n5) st5 go) fun r s6 ⟨u, hr, h6⟩ => ?_
    subst hr
    refine thnF h6 fun _ s7 ⟨x, H7, I7, r7, y7, st7, n7⟩ => ?_
    have I7' := I7.pinned (stat I7 n7) (T.obj _ _ st7)
    refine thnF (pg.run _ s7 _ H7 x u _ I7' r7 (step x H7 y7)) fun _ s8 ⟨σ8, H8, I8, hw8, q8⟩ => thnF (pt.run _ s8 σ8 H8 _ I8 q8) fun b s9 ⟨H9, I9, q9⟩ => ?_
    have fin : ∀ {s' : Shared} {H' : Hp}, Inv (X.blk s3 H3 scope ce fp) ([] ++ pinsAt fp s7.heap) σ8 H' s' → Nx H' → ∃ m, m < n ∧ ∃ i H', Inv (X.blk s3 H3 scope ce fp) [] (wipe σ (own.map (·.2))) H' s' ∧ tn i s'.heap ∧ (∀ b ∈ fp, H' b = none) ∧ W i m H' := fun {s' H'} I' nx => by
      obtain ⟨m', hm, w'⟩ := hNx H' nx
      have pin' : ∀ b ∈ fp, ∀ o, s7.heap.get? b = some o → s'.heap.get? b = some o ∧ H' b = none := fun b hb o e => have z := I'.pin (b, o) (List.mem_append_right _ (List.mem_append_right _ (mem_pinsAt hb e))); ⟨z.1, z.2.1⟩
      refine ⟨m', hm, i + 1, H', (I'.unpinned (pins := [])).weak (by rw [← hw8, wipe_length]) (fun j v e => ?_), T.keep _ _ _ st7 fun b hb o e => (pin' b hb o e).1, fun b hb => ?_, w'⟩
      · rw [← hw8] at e; exact (wipe_some e).1
      · obtain ⟨o, e, _⟩ := T.obj _ _ st7 b hb; exact (pin' b hb o e).2
    cases b with
    | false => simp only [Bool.false_eq_true, if_false] at q9 ⊢; exact fin I9 q9
    | true =>
      simp only [if_true] at q9 ⊢
      exact thnF (pe.run _ s9 σ8 H9 _ I9 q9) fun z s10 ⟨yv, H10, I10, r10, acc, hD10, hz10, nx⟩ => app_ok (X := X.blk s3 H3 scope ce fp) I10 hD10 hz10 r10 fun s11 I11 => fin I11 nx
end Mh
set_option Elab.async false
set_option linter.all false
set_option maxRecDepth 100000
set_option maxHeartbeats 4000000
/-! Ne: the def that names an exception that is handled. -/
namespace Mh
open PySem PySem.Spec PyProof.Rows HotX L2 L2H
/-- the names that such a def uses -/
def NN : List Str := ["e", "some", "labels", "word", "good"]
/-- isinstance(e, c), c by c -/
def isOf : List Expr → Option (List Str)
  | [] => some []
  | .Call (.Name f _) [.Name e _, .Name c _] [] _ :: es => if f = "isinstance" ∧ e = "e" then (isOf es).map (c :: ·) else none
  | _ => none
def namesOf (sc : Scope) : List Stmt → Option (Str × List Str)
  | [.Assign [.Name s1 _] (.List es _) _, .Assign [.Name s2 _] (.Constant (.str L) _ _) _,
      .Return (some (.Call (.Attribute (.Constant (.str J) _ _) m1 ap) [.ListComp (.Name w1 _) [⟨.Tuple [.Name w2 _, .Name g2 _] _ _, .Call (.Name z _) [.Call (.Attribute (.Name s3 _) m2 ap2) [.Constant (.str S) _ _] [] cp2, .Name s4 _] [] _, [.Name g3 _], 0⟩] sc2 _] [] cp)) _] =>
    if (s1 = "some" ∧ s2 = "labels" ∧ s3 = "labels" ∧ s4 = "some" ∧ w1 = "word" ∧ w2 = "word" ∧ g2 = "good" ∧ g3 = "good" ∧ z = "zip" ∧ m1 = "join" ∧ m2 = "split" ∧ J = " " ∧ S = " ") ∧
      (ap2.endLine == cp2.line) = true ∧ (ap.endLine == cp.line) = true ∧ blkC NN sc sc2 [("word", 3), ("good", 4)] = true ∧ Mi.locB sc "some" = true ∧ Mi.locB sc "labels" = true ∧ Mi.locB sc "e" = true ∧ Mi.locB sc2 "word" = true ∧ Mi.locB sc2 "good" = true ∧ Mi.glB sc "zip" = true ∧ Mi.glB sc "isinstance" = true
    then (isOf es).map (L, ·) else none
  | _ => none
def nameRes (L : Str) (fl : List Bool) : Str := Txt.join " " (((Txt.split L " ").zip fl).filterMap fun p => if p.2 = true then some p.1 else none)
/-- what the class named c says of D's instances -/
def ClsIs (X : Cx) (D : Addr) (c : Str) (b : Bool) : Prop := Gl X c ∧ (c == ("__debug__" : Str)) = false ∧
  ((∃ C, X.mg c = some (.ref C) ∧ PySem.W.kitOne X.K (.ref D) (.ref C) = some b) ∨ (X.mg c = none ∧ ∃ n, bootBuiltins c = some (.type n) ∧ c ≠ "__name__" ∧ PySem.W.kitOne X.K (.ref D) (.type n) = some b))
section
variable {X : Cx} {a D : Addr} {oe : Obj}
theorem call_isP (C : ExcC X.K D) (hp : (a, oe) ∈ X.pn) (hz : Zc (.ref D) none oe) (hf : ∃ vs, oe.data = .fields vs) : CallR X (.builtin "isinstance") (rIsE X.K D a) := by
  intro pins s σ H xs us Q I r h
  obtain ⟨c, cv, b, rfl, hcv, e, q⟩ := h
  obtain ⟨u1, u2, rfl, r1, r2⟩ : ∃ u1 u2, us = [u1, u2] ∧ RelV (.ref a) u1 ∧ RelV c u2 := by
    cases r with
    | cons rx rr => cases rr with
      | cons rt rr => cases rr; exact ⟨_, _, rfl, rx, rt⟩
  cases r1
  have ec := hcv _ r2
  subst ec
  obtain ⟨hget, _⟩ := I.pin (a, oe) (List.mem_append_left _ hp)
  obtain ⟨vs, hv⟩ := hf
  have J : PySem.W.InstAt s.heap a oe D none := by
    obtain ⟨oc, od, oda, osl⟩ := oe
    obtain ⟨h1, h2⟩ := hz
    dsimp only at h1 h2 hv
    subst h1 h2 hv
    exact ⟨hget, rfl, rfl, trivial⟩
  exact PySem.W.kia_one (PySem.W.handS_kitx_exc C.hg C.hk C.hs C.hd C.ha C.hn C.ht C.hm) I.kIn J e (fun z => nomatch z) fun tk => ⟨.bl b, H, I.kept (t' := tk) fun _ _ z => z, rfl, q⟩
theorem pe_is {c : Str} {b : Bool} {p1 p2 p3 p4 : Pos} (C : ExcC X.K D) (hp : (a, oe) ∈ X.pn) (hz : Zc (.ref D) none oe) (hf : ∃ vs, oe.data = .fields vs) (hN : X.N[0]? = some ("e" : Str)) (hv : Vis X.env.scope "e") (hg : Gl X "isinstance") (hm : X.mg "isinstance" = none) (k : ClsIs X D c b) :
    PE X (.Call (.Name "isinstance" p1) [.Name "e" p2, .Name c p3] [] p4) (fun σ H Q => σ[0]? = some (some (.ref a)) ∧ Q (.bl b) H) := by
  have pv : PE X (.Name "e" p2) (tVar 0) := pe_var hN hv
  obtain ⟨g, d, ⟨Cc, m, kk⟩ | ⟨m, n, bo, nn, kk⟩⟩ := k
  · have pc : PE X (.Name c p3) (tC (.ref Cc)) := pe_glob (v := .ref Cc) g m rfl d
    exact Mi.PE.imp (pe_callB (call_isP C hp hz hf) hg hm (by decide +kernel) (pa_cons pv (pa_cons pc pa_nil))) fun σ H Q ⟨h1, h2⟩ => ⟨_, h1, .ref Cc, .ref Cc, b, rfl, fun u r => r, kk, h2⟩
  · have pc : PE X (.Name c p3) (tC (.ty n)) := pe_bltn (v := .ty n) g m bo rfl nn d
    exact Mi.PE.imp (pe_callB (call_isP C hp hz hf) hg hm (by decide +kernel) (pa_cons pv (pa_cons pc pa_nil))) fun σ H Q ⟨h1, h2⟩ => ⟨_, h1, .ty n, .type n, b, rfl, fun u r => r, kk, h2⟩
theorem pa_is (C : ExcC X.K D) (hp : (a, oe) ∈ X.pn) (hz : Zc (.ref D) none oe) (hf : ∃ vs, oe.data = .fields vs) (hN : X.N[0]? = some ("e" : Str)) (hv : Vis X.env.scope "e") (hg : Gl X "isinstance") (hm : X.mg "isinstance" = none) :
    ∀ {es : List Expr} {cs : List Str} {fl : List Bool}, isOf es = some cs → Paired (ClsIs X D) cs fl → PA X es (fun σ H Q => σ[0]? = some (some (.ref a)) ∧ Q (fl.map V.bl) H) := by
  intro es
  induction es with
  | nil =>
    intro cs fl h k
    simp only [isOf, Option.some.injEq] at h
    subst h
    cases k
    exact Mi.PA.imp pa_nil fun σ H Q h => h.2
  | cons e es ih =>
    intro cs fl h k
    unfold isOf at h
    split at h
    · rename_i z
      cases z
    · rename_i e1
      cases e1
      split at h
      · rename_i hq
        obtain ⟨rfl, rfl⟩ := hq
        simp only [Option.map_eq_some_iff] at h
        obtain ⟨cs', h1, rfl⟩ := h
        cases k with
        | cons k1 k2 =>
          exact Mi.PA.imp (pa_cons (pe_is C hp hz hf hN hv hg hm k1) (ih h1 k2)) fun σ H Q h => ⟨h.1, h.1, h.2⟩
      · cases h
    · cases h
theorem filt_get {L : List Str} {fl : List Bool} {i : Nat} {w : Str} {b : Bool} (hw : L[i]? = some w) (hb : fl[i]? = some b) : ((L.zip fl).take (i + 1)).filterMap (fun p => if p.2 = true then some p.1 else none) = ((L.zip fl).take i).filterMap (fun p => if p.2 = true then some p.1 else none) ++ (if b = true then [w] else []) := by
  have h : (L.zip fl)[i]? = some (w, b) := by rw [List.getElem?_zip_eq_some]; exact ⟨hw, hb⟩
  rw [List.take_add_one, List.filterMap_append, h]
  cases b <;> simp
theorem filt_sub {L : List Str} {fl : List Bool} : List.Sublist ((L.zip fl).filterMap (fun p => if p.2 = true then some p.1 else none)) L := by
  induction L generalizing fl with
  | nil => simp
  | cons x L ih =>
    cases fl with
    | nil => simp
    | cons b fl =>
      rw [List.zip_cons_cons]
      cases b with
      | true => rw [List.filterMap_cons_some (b := x) (by simp)]; exact (ih (fl := fl)).cons_cons x
      | false => rw [List.filterMap_cons_none (by simp)]; exact (ih (fl := fl)).cons x
theorem sum_sub {l m : List Str} (h : List.Sublist l m) : (l.map (·.length)).sum + l.length * (" " : Str).length ≤ (m.map (·.length)).sum + m.length * (" " : Str).length := by
  induction h with
  | slnil => exact Nat.le_refl _
  | cons x h ih => simp only [List.map_cons, List.sum_cons, List.length_cons, Nat.succ_mul]; omega
  | cons_cons x h ih => simp only [List.map_cons, List.sum_cons, List.length_cons, Nat.succ_mul]; omega
theorem names_ps (hot : HotC X) (C : ExcC X.K D) (hp : (a, oe) ∈ X.pn) (hz : Zc (.ref D) none oe) (hf : ∃ vs, oe.data = .fields vs) (hN : X.N = NN) {sc : Scope} (hsc : X.env.scope = sc) (hfn : ∀ y, X.fn y = true) (hm : X.mg "isinstance" = none) (hm2 : X.mg "zip" = none)
    {body : List Stmt} {L : Str} {cs : List Str} {fl : List Bool} (h : namesOf sc body = some (L, cs)) (k : Paired (ClsIs X D) cs fl) (hl : (Txt.split L " ").length ≤ fl.length) (hf2 : fl.length ≤ sizeLine) (hz1 : L.length + 2 ≤ sizeLine) (hz2 : ((Txt.split L " ").map (·.length)).sum + (Txt.split L " ").length * (" " : Str).length ≤ 16777216) :
    PSs X body (fun D σ H => σ.length = 5 ∧ σ[0]? = some (some (.ref a)) ∧ ∀ H', (∀ b o, H b = some o → H' b = some o) → D.rt (.str (nameRes L fl)) H') := by
  have nd : X.N.Nodup := by rw [hN]; decide +kernel
  unfold namesOf at h
  split at h
  · rename_i s1 _ es _ _ s2 _ L' _ _ _ J _ _ m1 ap w1 _ w2 _ g2 _ _ _ z _ s3 _ m2 ap2 S _ _ cp2 s4 _ _ g3 _ sc2 _ cp _
    split at h
    · rename_i hq
      obtain ⟨⟨rfl, rfl, rfl, rfl, rfl, rfl, rfl, rfl, rfl, rfl, rfl, rfl, rfl⟩, l1, l2, hb, c1, c2, c3, c4, c5, c6, c7⟩ := hq
      simp only [Option.map_eq_some_iff] at h
      obtain ⟨cs', h1, e⟩ := h
      cases e
      have gl : ∀ {x : Str}, Mi.glB sc x = true → Gl X x := fun {x} h => by
        have := (Mi.gl_of h).1
        rw [← hsc] at this; exact this
      have vis : ∀ {x : Str}, Mi.locB sc x = true → Vis X.env.scope x := fun {x} h => by
        rw [hsc]; exact (Mi.loc_of h).elim (fun k => .inl k) (fun k => .inr (.inl k))
      have loc : ∀ {x : Str}, Mi.locB sc x = true → Loc X.env.scope x := fun {x} h => by rw [hsc]; exact Mi.loc_of h
      have ok : BlkOk X.N X.env.scope sc2 [("word", 3), ("good", 4)] := by rw [hN, hsc]; exact blkOk_by hb
      have pv2 : ∀ {p : Pos}, PE X (.Name "labels" p) (tVar 2) := fun {p} => pe_var (by rw [hN]; rfl) (vis c2)
      have pv1 : ∀ {p : Pos}, PE X (.Name "some" p) (tVar 1) := fun {p} => pe_var (by rw [hN]; rfl) (vis c1)
      have hotb := fun (s : Shared) (H : Hp) (C : Addr) (cl : List (Str × Addr)) (fp : List Addr) => Mi.locOk_blk (X := X) (scope := sc2) (s := s) (H := H) (cl := cl) (a := C) (fp := fp)
      refine Mi.PSs.imp (pss_cons (ps_set (i := 1) nd (by rw [hN]; rfl) (loc c1) (pe_lst (pa_is C hp hz hf (by rw [hN]; rfl) (vis c3) (gl c7) hm h1 k)) rfl (.inl (hfn _))) (pss_cons (ps_set (i := 2) nd (by rw [hN]; rfl) (loc c2) pe_str rfl (.inl (hfn _)))
        (pss_one (ps_ret (pe_m1 F.slot_str_join F.type_str_join mt_join pe_str (pe_lcI (g := gTup X.K 2 (gCons (gName 3) (gCons (gName 4) gNil))) hot nd (pi_zipI (gl c6) hm2 (pa_cons (pe_split pv2 pe_str rfl rfl l1) (pa_cons pv1 pa_nil))) ok
          (fun s H Ca cl fp hI => pg_tupI (n := 2) hI (pgs_cons (pg_name (i := 3) nd (by rw [hN]; rfl) (hotb s H Ca cl fp _ c4).1 (hotb s H Ca cl fp _ c4).2) (pgs_cons (pg_name (i := 4) nd (by rw [hN]; rfl) (hotb s H Ca cl fp _ c5).1 (hotb s H Ca cl fp _ c5).2) pgs_nil)))
          (fun s H Ca cl fp => pts_one (pt_val (pe_var (i := 4) (by show X.N[4]? = _; rw [hN]; rfl) ((hotb s H Ca cl fp _ c5).1.elim (fun k => .inl k) (fun k => .inr (.inl k))))))
          (fun s H Ca cl fp => pe_var (i := 3) (by show X.N[3]? = _; rw [hN]; rfl) ((hotb s H Ca cl fp _ c4).1.elim (fun k => .inl k) (fun k => .inr (.inl k))))) rfl rfl l2))))) fun D σ H ⟨e1, e2, e3⟩ => ?_
      refine ⟨e2, by rw [List.length_map]; exact hf2, fun pS nS => ?_⟩
      have g2 : ((σ.set 1 (some (V.ref pS))).set 2 (some (.str L)))[2]? = some (some (.str L)) := by rw [List.getElem?_set_self (by simp [e1])]
      have g1 : ((σ.set 1 (some (V.ref pS))).set 2 (some (.str L)))[1]? = some (some (.ref pS)) := by rw [List.getElem?_set_ne (by decide), List.getElem?_set_self (by simp [e1])]
      refine ⟨⟨" ", rfl⟩, ⟨.str L, g2, ⟨L, rfl⟩, L, " ", rfl, rfl, by decide +kernel, hz1, fun pL nL => ⟨.ref pS, g1, pL, pS, (Txt.split L " ").map V.str, fl.map V.bl, rfl, .inl (.inl upd_same), ?_⟩⟩⟩
      have nLS : pS ≠ pL := fun e => by rw [e] at nL; rw [← e, upd_same] at nL; cases nL
      refine ⟨.inl (.inl (by rw [upd_ne nLS, upd_same])), fun Dd nD => ?_⟩
      obtain ⟨Hx, hHx⟩ : ∃ Hx, upd (upd H pS (.lst (fl.map V.bl))) pL (.lst ((Txt.split L " ").map V.str)) = Hx := ⟨_, rfl⟩
      have xL : Hx pL = some (.lst ((Txt.split L " ").map V.str)) := by rw [← hHx, upd_same]
      have xS : Hx pS = some (.lst (fl.map V.bl)) := by rw [← hHx, upd_ne nLS, upd_same]
      have xH : ∀ b o, H b = some o → Hx b = some o := fun b o h => by
        rw [← hHx, upd_ne (fun z => ?_), upd_ne (fun z => by rw [z, nS] at h; cases h)]
        · exact h
        · rw [z] at h; rw [upd_ne (fun z => by rw [z, nS] at h; cases h)] at nL; rw [nL] at h; cases h
      rw [hHx] at nD ⊢
      have nDL : pL ≠ Dd := fun e => by rw [← e, xL] at nD; cases nD
      have nDS : pS ≠ Dd := fun e => by rw [← e, xS] at nD; cases nD
      let acc := fun i => ((((Txt.split L " ").zip fl).take i).filterMap (fun p => if p.2 = true then some p.1 else none)).map V.str
      refine ⟨fun i m H' => i + m = (Txt.split L " ").length ∧ H' Dd = some (.lst (acc i)) ∧ (∀ b o, Hx b = some o → H' b = some o), ⟨(Txt.split L " ").length, by omega, upd_same, fun b o h => by rw [upd_ne (fun z => by rw [z, nD] at h; cases h)]; exact h⟩, ?_⟩
      rintro i m H' ⟨w1, w2, w3⟩
      have yL : SqL X.K H' pL ((Txt.split L " ").map V.str) := .inl (.inl (w3 _ _ xL))
      have yS : SqL X.K H' pS (fl.map V.bl) := .inl (.inl (w3 _ _ xS))
      by_cases hi : i < (Txt.split L " ").length
      · refine .inr ⟨⟨_, _, _, _, yL, yS, by rw [List.getElem?_map, List.getElem?_eq_getElem hi]; rfl, by rw [List.getElem?_map, List.getElem?_eq_getElem (Nat.lt_of_lt_of_le hi hl)]; rfl⟩, fun H2 => (i + 1) + (m - 1) = (Txt.split L " ").length ∧ H2 Dd = some (.lst (acc (i + 1))) ∧ (∀ b o, Hx b = some o → H2 b = some o), fun H2 h => ⟨m - 1, by omega, h⟩, ?_⟩
        rintro x H2 ⟨Tp, u, v, rfl, nT, rfl, q1, q2⟩
        have q1 := q1 _ yL
        have q2 := q2 _ yS
        rw [List.getElem?_map, List.getElem?_eq_getElem hi] at q1
        rw [List.getElem?_map, List.getElem?_eq_getElem (Nat.lt_of_lt_of_le hi hl)] at q2
        cases q1
        cases q2
        have nDT : Dd ≠ Tp := fun e => by rw [← e, w2] at nT; cases nT
        refine ⟨Tp, _, rfl, .inl (.inl upd_same), rfl, _, _, rfl, _, _, rfl, rfl, ?_⟩
        have sl : (((σ.set 1 (some (V.ref pS))).set 2 (some (.str L)))).length = 5 := by simp [e1]
        obtain ⟨σ2, hσ2⟩ : ∃ σ2, ((σ.set 1 (some (V.ref pS))).set 2 (some (.str L))) = σ2 := ⟨_, rfl⟩
        rw [hσ2] at sl ⊢
        match σ2, sl with
        | [x0, x1, x2, x3, x4], _ =>
          have w4 : upd H' Tp (.tup [.str (Txt.split L " ")[i], .bl (fl[i]'(Nat.lt_of_lt_of_le hi hl))]) Dd = some (.lst (acc i)) := by rw [upd_ne nDT]; exact w2
          have w5 : ∀ b o, Hx b = some o → upd H' Tp (.tup [.str (Txt.split L " ")[i], .bl (fl[i]'(Nat.lt_of_lt_of_le hi hl))]) b = some o := fun b o h => by
            rw [upd_ne (fun z => by rw [← z, w3 _ _ h] at nT; cases nT)]; exact w3 _ _ h
          have ac : acc (i + 1) = acc i ++ (if (fl[i]'(Nat.lt_of_lt_of_le hi hl)) = true then [V.str (Txt.split L " ")[i]] else []) := by
            show List.map _ _ = _
            rw [filt_get (List.getElem?_eq_getElem hi) (List.getElem?_eq_getElem (Nat.lt_of_lt_of_le hi hl)), List.map_append]
            cases (fl[i]'(Nat.lt_of_lt_of_le hi hl)) <;> rfl
          refine ⟨rfl, .bl _, rfl, _, rfl, ?_⟩
          cases hb : (fl[i]'(Nat.lt_of_lt_of_le hi hl)) with
          | true =>
            rw [hb] at ac w4 w5
            refine (if_pos rfl).mpr ⟨_, rfl, acc i, w4, ?_, by omega, ?_, fun b o h => ?_⟩
            · show (List.map _ _).length < _
              rw [List.length_map]
              have := Nat.le_trans (List.length_filterMap_le (fun p : Str × Bool => if p.2 = true then some p.1 else none) (((Txt.split L " ").zip fl).take i)) (List.length_take_le i _)
              exact Nat.lt_of_le_of_lt this (Nat.lt_of_lt_of_le hi (Nat.le_trans hl hf2))
            · rw [upd_same, ac]; rfl
            · rw [upd_ne (fun z => by rw [z, nD] at h; cases h)]; exact w5 _ _ h
          | false =>
            rw [hb] at ac w4 w5
            exact (if_neg Bool.false_ne_true).mpr ⟨by omega, by rw [ac]; simpa using w4, w5⟩
      · have hi2 : (Txt.split L " ").length ≤ i := by omega
        refine .inl ⟨⟨_, yL, by rw [List.length_map]; exact hi2⟩, " ", Dd, ((Txt.split L " ").zip fl).filterMap (fun p => if p.2 = true then some p.1 else none), rfl, rfl, .inl (.inl (.inl ?_)), Nat.le_trans (sum_sub filt_sub) hz2, ?_⟩
        · rw [w2]
          show some (HO.lst (List.map _ _)) = _
          rw [List.take_of_length_le (by rw [List.length_zip]; omega)]
        · exact e3 _ fun b o h => w3 _ _ (xH _ _ h)
    · cases h
  · cases h
end
end Mh
set_option Elab.async false
set_option linter.all false
set_option maxRecDepth 100000
set_option maxHeartbeats 4000000
/-! Nf: what an exception of a lambda's body is called. -/
namespace Mh
open PySem PySem.Spec PyProof.Rows HotX L2 L2H LamX
def eL : List Str := ["e"]
/-- what the class named c says of D's instances, by the globals -/
def ClsK (K : PySem.W.Frag) (mg : Str → Option Value) (D : Addr) (c : Str) (b : Bool) : Prop :=
  (∃ C, mg c = some (.ref C) ∧ PySem.W.kitOne K (.ref D) (.ref C) = some b) ∨ (mg c = none ∧ ∃ n, bootBuiltins c = some (.type n) ∧ c ≠ "__name__" ∧ PySem.W.kitOne K (.ref D) (.type n) = some b)
/-- the def that names the exception of class D by the text lbl -/
structure NamD (K : PySem.W.Frag) (mg : Str → Option Value) (x qual : Str) (params : Arguments) (body : List Stmt) (scope : Scope) (f : Addr) (fd : FuncData) (L : Str) (cs : List Str) : Prop where
  fn : FunD K x qual params body scope [] [] f fd
  sc : FnScope NN eL scope
  bd : namesOf scope body = some (L, cs)
  gl : cs.all (Mi.glB scope) = true
  z1 : L.length + 2 ≤ sizeLine
  z2 : ((Txt.split L " ").map (·.length)).sum + (Txt.split L " ").length * (" " : Str).length ≤ 16777216
  m1 : mg "isinstance" = none
  m2 : mg "zip" = none
  bi : L2.Binds K fd eL []
  gx : mg x = some (.ref f)
/-- the exception class D is named lbl -/
structure LblD (K : PySem.W.Frag) (mg : Str → Option Value) (L : Str) (cs : List Str) (D : Addr) (lbl : Str) : Prop where
  ex : ExcC K D
  fl : ∃ fl : List Bool, Paired (ClsK K mg D) cs fl ∧ (Txt.split L " ").length ≤ fl.length ∧ fl.length ≤ sizeLine ∧ nameRes L fl = lbl
theorem paired_glob {X : Cx} {D : Addr} {cs : List Str} {fl : List Bool} (hg : cs.all (Mi.glB X.env.scope) = true) (hp : Paired (ClsK X.K X.mg D) cs fl) : Paired (ClsIs X D) cs fl := by
  induction hp with
  | nil => exact .nil
  | cons h _ ih =>
    simp only [List.all_cons, Bool.and_eq_true] at hg
    exact .cons ⟨(Mi.gl_of hg.1).1, (Mi.gl_of hg.1).2.1, h⟩ (ih hg.2)
theorem names_run {P : Program} {w : World} {K : PySem.W.Frag} {mg : Str → Option Value} {base : Heap} {x qual : Str} {params : Arguments} {body : List Stmt} {scope : Scope} {f : Addr} {fd : FuncData} {L : Str} {cs : List Str} {k : Nat} (N : NamD K mg x qual params body scope f fd L cs) {D : Addr} {lbl : Str} (l : LblD K mg L cs D lbl)
    {A : Around} {outer : List Env} {s : Shared} {H : Hp} {args : Args} {Q : VK} {a : Addr} {oe : Obj} (hr : RoomH (k + 1) A) (hot : Hot1 A (a, oe)) (hpin : PinOk outer H s (a, oe)) (hz : Zc (.ref D) none oe) (e0 : Env0 P w K mg base A outer s H) (hb : BindsTo s fd args (eL.zip [Value.ref a]))
    (h : ∀ H', (∀ b o, H b = some o → H' b = some o) → Q (.str lbl) H') : codeAny (model P w) A (.call (.ref f) args) (CR C8.CX0 outer P w H s Q C8.E0) s := by
  obtain ⟨oc, od, dV, kV, doc, pm, an, cdv, ct, osl, rfl, lk, hcd, _, _⟩ := N.fn.ex
  have S := N.sc
  have KX : K.In s.heap := e0.mod.kin.keeps fun b o e => (e0.bs b o e).1
  have lim : s.heap.NoLimit := e0.mod.nolimit.keeps fun b o e => (e0.bs b o e).1
  have hkind : ∀ y ∈ eL.zip [Value.ref a], scope.names.lookup y.1 = some .local ∨ (scope.names.lookup y.1 = some .cell ∧ ((cellsFrom (s.heap.objs.size + 1) scope.names []).lookup y.1).isSome = true) := fun ⟨n, v⟩ hy => by
    rcases S.par n (List.of_mem_zip hy).1 with q | q
    · exact .inl q
    · exact .inr ⟨q, PySem.W.cellsFrom_some _ _ _ (.inl q)⟩
  refine codeAny_call_function hr.depth (KX _ _ lk) rfl S.co S.gen rfl (PySem.W.codeRec_of KX hcd) (hb _ _ _ _ (wpAny_newFunctionEnv_cells S.kind hkind fun env he s1 x => ?_))
  subst he
  refine ⟨lim.keeps x.toInCall.keep, codeAny_func ?_⟩
  obtain ⟨vs, hv, hn⟩ := hot.2
  obtain ⟨fl, hp, h1, h2, rfl⟩ := l.fl
  have I : Inv (cxH C8.CX0 P w K mg base NN qual scope f cdv A outer s H C8.E0 (a, oe)) [] (L2.start NN [.ref a]) H s1 := inv_startH S hpin e0 rfl (.cons rfl .nil) x
  have hp' : Paired (ClsIs (cxH C8.CX0 P w K mg base NN qual scope f cdv A outer s H C8.E0 (a, oe)) D) cs fl := paired_glob N.gl hp
  have ht := names_ps (X := cxH C8.CX0 P w K mg base NN qual scope f cdv A outer s H C8.E0 (a, oe)) (oe := oe) (a := a) ⟨(a, oe), hot, by show (a, oe) ∈ [(a, oe)]; simp⟩ l.ex (by show (a, oe) ∈ [(a, oe)]; simp) hz ⟨vs, hv⟩ rfl rfl (fun _ => rfl) N.m1 N.m2 N.bd hp' h1 h2 N.z1 N.z2
  refine wpAny_mono (ht.run [] s1 (L2.start NN [.ref a]) H { nx := fun _ H' => Q .non H', rt := Q, bk := fun _ _ => False, ct := fun _ _ => False } I ⟨rfl, rfl, h⟩) (fun fl s' hs => ?_) fun e s' hs => hs
  cases fl with
  | ret u =>
    obtain ⟨v, σ', H', J, rv, q⟩ := hs
    exact ⟨v, H', J.os, J.bare, J.base, J.hok, rv, q⟩
  | next =>
    obtain ⟨σ', H', J, q⟩ := hs
    exact ⟨.non, H', J.os, J.bare, J.base, J.hok, rfl, q⟩
  | brk => obtain ⟨_, _, _, q⟩ := hs; exact False.elim q
  | cont => obtain ⟨_, _, _, q⟩ := hs; exact False.elim q
/-- names(e) in an except suite -/
theorem pe_namesS {X : Cx} {x qual : Str} {params : Arguments} {body : List Stmt} {scope : Scope} {f : Addr} {fd : FuncData} {L : Str} {cs : List Str} {k i : Nat} (N : NamD X.K X.mg x qual params body scope f fd L cs) {D : Addr} {lbl : Str} (l : LblD X.K X.mg L cs D lbl)
    {a : Addr} {oe : Obj} {pn : List (Addr × Obj)} {y : Str} {p1 p2 p3 : Pos} (hz : L2N.Zn (.ref D) none oe) (hv : ∃ vs, oe.data = .fields vs) (hr : Room (k + 1) X.A) (hg : Gl X x) (hi : X.N[i]? = some y) (hy : Vis X.env.scope y) (hd : (x == ("__debug__" : Str)) = false) (hd2 : (y == ("__debug__" : Str)) = false) (hd3 : (y == ("__classdict__" : Str)) = false) :
    PE (X.suite a ((a, oe) :: pn)) (.Call (.Name x p1) [.Name y p2] [] p3) (fun σ H Q => σ[i]? = some (some (.ref a)) ∧ ∀ H', (∀ b o, H b = some o → H' b = some o) → Q (.str lbl) H') := by
  obtain ⟨vs, hv⟩ := hv
  have hot : Hot1 (X.suite a ((a, oe) :: pn)).A (a, oe) := ⟨rfl, vs, hv, hz.2.2 vs hv⟩
  have rm : RoomH (k + 1) (X.suite a ((a, oe) :: pn)).A := ⟨hr.dp, hr.un⟩
  refine ⟨fun pins s σ H Q I ⟨h1, h2⟩ => ?_⟩
  refine wpAny_Call_Name_kw (ld_glob (X := X.suite a ((a, oe) :: pn)) I hg N.gx ?_ hd)
  have ha : PA (X.suite a ((a, oe) :: pn)) [.Name y p2] (tCons (tVar i) tNil) := pa_cons (pe_var hi hy hd2 hd3) pa_nil
  refine PySem.W.callWith_K (h₀ := X.base) I.ok.mod.kin N.fn.kp (thn (ha.run p3 pins s σ H (fun vs H1 => vs = [.ref a] ∧ H1 = H) I ⟨_, h1, rfl, rfl⟩) fun us s1 ⟨vs1, H1, I1, r, e1, e2⟩ => ⟨I1.kIn, ?_⟩) rfl rfl
  subst e1 e2
  obtain rfl : us = [Value.ref a] := by
    cases r with
    | cons rx rr => cases rr; cases rx; rfl
  have P1 := I1.pin (a, oe) (List.mem_append_left _ List.mem_cons_self)
  have hpin : PinOk (X.suite a ((a, oe) :: pn)).stack H1 s1 (a, oe) := ⟨P1.1, P1.2.1, fun hm => (List.mem_cons.mp (I1.stkSub a hm)).elim P1.2.2.1 P1.2.2.2.1, P1.2.2.2.2⟩
  have b := N.bi s1 [.ref a] I1.kIn rfl
  refine wpAny_call (codeAny_mono (names_run (P := X.prog) (w := X.w) (base := X.base) (Q := Q) (outer := X.stack) N l rm hot hpin hz.zc I1.env0 b h2) fun r s' hq => ?_)
  cases r with
  | error e => exact (show False from hq).elim
  | ok fl =>
    cases fl with
    | ret u => exact I1.after hq
    | next => exact False.elim hq
    | brk => exact False.elim hq
    | cont => exact False.elim hq
end Mh
set_option Elab.async false
set_option linter.all false
set_option maxRecDepth 100000
set_option maxHeartbeats 4000000
/-! Ng: error(lambda: e), the def that calls what it gets and names the exception. -/
namespace Mh
open PySem PySem.Spec PyProof.Rows HotX L2 L2H LamX
/-- the context of the lambda's body -/
abbrev lamN (X : Cx) (A : Around) (outer : List Env) (s : Shared) (H : Hp) (E : XK) (scope : Scope) (f c' : Addr) : Cx := (lamCx X A outer s H E scope f c').tr []
  (fun e s' => wpAny (model X.prog X.w) (A.deeper (lamEnv X scope s.heap.objs.size f c')) (leaving (lamEnv X scope s.heap.objs.size f c') e) (fun _ s'' => L2N.CX X.prog X.w outer H s E e s'') (fun e' s'' => L2N.CX X.prog X.w outer H s E e' s'') s')
theorem lamN_takes {X : Cx} {A : Around} {outer : List Env} {s : Shared} {H : Hp} {E : XK} {scope : Scope} {f c' : Addr} : L2N.Takes (lamN X A outer s H E scope f c') (fun cls d _ H => E cls d H) := L2N.takes_of rfl rfl rfl rfl
section
variable {X : Cx} {pins : List (Addr × Obj)} {σ : L2.St} {H : Hp} {s : Shared}
theorem pe_actN {Ng : List Str} {qg : Str} {sg : Scope} {g f c' : Addr} {cdg pm ctv : Value} {params : Arguments} {body : Expr} {scope : Scope} {k i : Nat} {a : Str} {pn : List (Addr × Obj)} {xe : Value → Shared → Prop} {W : WX} {E : XK} {tb : TE} {p1 p2 : Pos}
    (I : Inv X pins σ H s) (L : LamS X.env.scope scope) (hf : s.heap.get? f = some (PySem.W.kla_obj "<lambda>" (X.env.qual ++ "<lambda>") params body scope (cloFrom X.env.cells scope.names []) pm c' ctv)) (hfn : H f = none) (hfr : f ∉ frs X.stack)
    (hbind : bindArgs (PySem.W.kla_fn "<lambda>" (X.env.qual ++ "<lambda>") params body scope (cloFrom X.env.cells scope.names []) pm (.ref c') ctv) ⟨[], []⟩ = pure [])
    (tk : L2N.Takes ((cxOf C8.CX0 X.prog X.w X.K X.mg X.base Ng qg sg g cdg X.A X.stack s H C8.E0).tr pn xe) W) (hr : Room (k + 1) (X.A.deeper (envOfC qg sg s.heap.objs.size g cdg)))
    (hbody : ∀ (A : Around) (outer : List Env) (s : Shared) (H : Hp), Room k (A.deeper (lamEnv X scope s.heap.objs.size f c')) → PE (lamN X A outer s H E scope f c') body tb)
    (hN : Ng[i]? = some a) (hv : Vis sg a) (hd : (a == ("__debug__" : Str)) = false) (hcd : (a == ("__classdict__" : Str)) = false) :
    PE ((cxOf C8.CX0 X.prog X.w X.K X.mg X.base Ng qg sg g cdg X.A X.stack s H C8.E0).tr pn xe) (.Call (.Name a p1) [] [] p2) (fun σZ HZ Q => (∀ cls d H', E cls d H' → W cls d σZ H') ∧ σZ[i]? = some (some (.ref f)) ∧ HZ c' = some (CodeO c' (X.env.qual ++ "<lambda>")) ∧ tb σ HZ Q) := by
  refine ⟨fun pinsZ sZ σZ HZ Q IZ ⟨hW, hs, hc, ht⟩ => ?_⟩
  refine wpAny_Call_Name_kw (thn ((pe_var (pos := p1) (i := i) hN hv hd hcd).run pinsZ sZ σZ HZ (fun v H1 => v = .ref f ∧ H1 = HZ) IZ ⟨.ref f, hs, rfl, rfl⟩) fun u s1 ⟨v, H1, I1, r1, ev, eH⟩ => ?_)
  subst ev
  rw [eH] at I1
  obtain rfl : u = Value.ref f := r1
  have of1 := I1.base.keep f _ hf hfn hfr (fun z => nomatch (show f ∈ ([] : List Addr) from z))
  refine PySem.W.callWith_F0 ⟨_, _, _, _, of1⟩ ?_
  have un : Un (frs X.stack) [] H HZ s.heap s1.heap := I1.base
  obtain ⟨⟨oc, vs, t, hoc, hdc, hvc⟩, _, _⟩ := I1.hok c' _ hc
  have rc : codeAny (model X.prog X.w) (X.A.deeper (envOfC qg sg s.heap.objs.size g cdg)) (.call (.ref f) ⟨[], []⟩) (CR (L2N.CX X.prog X.w) (envOfC qg sg s.heap.objs.size g cdg :: X.stack) X.prog X.w HZ s1 Q E) s1 := by
    refine PySem.W.kla_callFunE hr.depth of1 rfl L.co L.gen rfl ⟨c', oc, vs, t, rfl, hoc, hdc, hvc⟩ ?_
    rw [hbind]
    refine wpAny_pure (wpAny_newFunctionEnv (fun y hy => (L.own y hy).2) (fun y hy => absurd hy (by simp)) (fun h₁ hns hsb => ⟨I1.nolimit.fresh _ hsb, ?_⟩) L.kind)
    show codeAny _ _ (.expr body (lamEnv X scope s1.heap.objs.size f c')) _ _
    have kp : ∀ b o, s1.heap.get? b = some o → h₁.get? b = some o := fun b o e => hsb.extBut b o (Nat.ne_of_lt (Heap.lt_size e)) (Heap.get?_push_of_some _ e)
    have J0 := lam_start2 (E := E) (f := f) (c' := c') (tk := s1.toks + ([] : List (Str × Value)).length) I L I1.env0 hr.hd un hns kp
    have J : Inv (lamN X (X.A.deeper (envOfC qg sg s.heap.objs.size g cdg)) (envOfC qg sg s.heap.objs.size g cdg :: X.stack) s1 HZ E scope f c') [] σ HZ { s1 with heap := h₁, toks := s1.toks + ([] : List (Str × Value)).length } := J0.toTry _
    exact PySem.W.kla_codeExpr (wpAny_mono ((hbody _ _ s1 HZ (hr.deeper _)).run [] _ _ HZ Q J ht) (fun v s' ⟨w', H', J', rv, q⟩ => ⟨w', H', J'.os, J'.bare, J'.base, J'.hok, rv, q⟩) fun e s' hq => hq)
  refine wpAny_call (codeAny_mono rc fun r s' hq => ?_)
  cases r with
  | error e => exact tk e s' (L2N.XE.of_call I1 hW hq)
  | ok fl =>
    cases fl with
    | ret u => exact I1.after hq
    | next => exact False.elim hq
    | brk => exact False.elim hq
    | cont => exact False.elim hq
end
/-- all but the tables stay, and these stay tables -/
def ExtT (H H' : Hp) : Prop := ExtN H H' ∧ (∀ b o, H b = some o → ∃ o', H' b = some o') ∧ ∀ b ps, H' b = some (.tbl ps) → ∃ qs, H b = some (.tbl qs)
theorem ExtT.refl {H : Hp} : ExtT H H := ⟨ExtN.refl H, fun _ o h => ⟨o, h⟩, fun _ ps h => ⟨ps, h⟩⟩
theorem lam_make3 {X : Cx} {pins : List (Addr × Obj)} {σ : L2.St} {H : Hp} {s : Shared} {T : List (Addr × Str)} {c P : Addr} {params : Arguments} {body : Expr} {scope : Scope} {pos : Pos} {E : Value → Shared → Prop} {Q : Value → Shared → Prop} (I : Inv X pins σ H s) (TB : TabB X.base X.mg c P) (hcode : X.env.code = .ref c)
    (hm : (P, X.env.qual ++ "<lambda>") ∈ T) (hu : ∀ p ∈ T, p.1 = P → p.2 = X.env.qual ++ "<lambda>") (hT : Tabs T H) (hdef : defaultsOf params X.env = ([], [])) (hfree : ∀ y ∈ scope.names, y.2 = .free → ∃ c, X.env.cells.lookup y.1 = some c)
    (h : ∀ (f c' : Addr) (pm ctv : Value) (H1 : Hp) (s' : Shared), Inv X pins σ H1 s' → ExtT H H1 → Tabs T H1 →
      s'.heap.get? f = some (PySem.W.kla_obj "<lambda>" (X.env.qual ++ "<lambda>") params body scope (cloFrom X.env.cells scope.names []) pm c' ctv) → H1 f = none → f ∉ frs X.stack → H1 c' = some (CodeO c' (X.env.qual ++ "<lambda>")) → Q (.ref f) s') :
    wpAny (model X.prog X.w) X.A (eval (.Lambda params body scope pos) X.env) Q E s := by
  obtain ⟨ps, hP, ht, ha⟩ := hT _ hm
  have bP : s.heap.BuiltinsAt X.mg P := TB.bm.keeps I.bk
  have hP' := I.hok P _ hP
  have nofr : ∀ f, s.heap.objs.size ≤ f → f ∉ frs X.stack := fun f hf z => by
    rcases List.mem_cons.mp (I.stkSub _ z) with e | e
    · exact Nat.lt_irrefl _ (Nat.lt_of_lt_of_le (by rw [e]; exact I.lt) hf)
    · exact I.nofs hf e
  refine PySem.W.kla_eval hdef ?_
  cases hc : codeAmong pos ps.toList with
  | some cv =>
    obtain ⟨c', rfl, hco⟩ := ha pos cv hc
    exact PySem.W.kla_makeFunctionHit (mg := X.mg) (c := c) (P := P) (ps := ps) (closure_ok hfree) I.ok.glob (I.mod.glob.keeps I.bk) hcode (TB.code.keeps I.bk) hP' ht hc bP fun ctv h' tk hx hsz =>
      h h'.objs.size c' ((X.mg "__name__").getD .none) ctv H _ (I.kept fun b o e => Heap.get?_push_of_some _ (hx b o e)) ExtT.refl hT (Heap.get?_push_size _ rfl) (I.hok.fresh hsz) (nofr _ hsz) hco
  | none =>
    refine PySem.W.kla_makeFunction (mg := X.mg) (c := c) (P := P) (ps := ps) (closure_ok hfree) I.ok.glob (I.mod.glob.keeps I.bk) hcode (TB.code.keeps I.bk) hP' ht hc TB.gP bP fun c' ctv h' tk hx hge hlt hrec htb => ?_
    obtain ⟨c2, oc, vs, t, e2, hoc, hd, hv⟩ := hrec
    cases e2
    have hsz : s.heap.objs.size ≤ h'.objs.size := Nat.le_trans hge (Nat.le_of_lt hlt)
    have nC : H c' = none := I.hok.fresh hge
    have nPc : P ≠ c' := ne_of_none hP nC
    have I1 := inv_table (t' := tk) (more := #[rawInt pos.line, rawInt pos.col, .ref c']) (h' := h'.push (PySem.W.kla_obj "<lambda>" (X.env.qual ++ "<lambda>") params body scope (cloFrom X.env.cells scope.names []) ((X.mg "__name__").getD .none) c' ctv)) I hP
      (fun b o hb e => Heap.get?_push_of_some _ (hx b o hb e)) (Heap.get?_push_of_some _ htb) hge ⟨oc, vs, t, Heap.get?_push_of_some _ hoc, hd, hv⟩
    obtain ⟨qs, hqs⟩ : ∃ qs, ps ++ #[rawInt pos.line, rawInt pos.col, .ref c'] = qs := ⟨_, rfl⟩
    have eL : qs.toList = ps.toList ++ [rawInt pos.line, rawInt pos.col, .ref c'] := by rw [← hqs]; simp
    rw [hqs] at I1
    have hE : ExtN H (upd (upd H P (.tbl qs)) c' (CodeO c' (X.env.qual ++ "<lambda>"))) := fun b o e n => by
      rw [upd_ne (ne_of_none e nC), upd_ne (fun z => n ps (Option.some.inj (e.symm.trans (by rw [z]; exact hP))))]
      exact e
    have hE2 : ExtT H (upd (upd H P (.tbl qs)) c' (CodeO c' (X.env.qual ++ "<lambda>"))) := by
      refine ⟨hE, fun b o e => ?_, fun b us e => ?_⟩
      · rw [upd_ne (ne_of_none e nC)]
        by_cases hb : b = P
        · rw [hb, upd_same]; exact ⟨_, rfl⟩
        · rw [upd_ne hb]; exact ⟨o, e⟩
      · by_cases hb : b = c'
        · rw [hb, upd_same] at e
          exact absurd (Option.some.inj e) (codeO_ne us)
        · rw [upd_ne hb] at e
          by_cases hb2 : b = P
          · rw [hb2]; exact ⟨_, hP⟩
          · rw [upd_ne hb2] at e; exact ⟨_, e⟩
    refine h h'.objs.size c' ((X.mg "__name__").getD .none) ctv _ _ I1 hE2 (fun p hp => ?_) (Heap.get?_push_size _ rfl) ?_ (nofr _ hsz) upd_same
    · by_cases hb : p.1 = P
      · rw [hu p hp hb, hb]
        refine ⟨_, by rw [upd_ne nPc, upd_same], by rw [eL]; exact PySem.TriplesOk_snoc _ _ _ _ ht, fun p' cv hcv => ?_⟩
        rw [eL] at hcv
        rcases among_app _ ht hcv with z | z
        · obtain ⟨c0, e1, e2⟩ := ha p' cv z
          exact ⟨c0, e1, hE _ _ e2 codeO_ne⟩
        · exact ⟨c', z, upd_same⟩
      · obtain ⟨ps', a1, a2, a3⟩ := hT p hp
        refine ⟨ps', by rw [upd_ne (ne_of_none a1 nC), upd_ne hb]; exact a1, a2, fun p' cv hcv => ?_⟩
        obtain ⟨c0, e1, e2⟩ := a3 p' cv hcv
        exact ⟨c0, e1, hE _ _ e2 codeO_ne⟩
    · rw [upd_ne (Nat.ne_of_gt hlt), upd_ne (Nat.ne_of_gt (Nat.lt_of_lt_of_le (Heap.lt_size hP') hsz))]
      exact I.hok.fresh hsz
/-- the names that such a def uses -/
def NE : List Str := ["call", "e"]
def cL : List Str := ["call"]
/-- try: call() / except CardError as e: return names(e) / return '' -/
def errOf (sc : Scope) : List Stmt → Option (Str × Str)
  | [.Try [.Expr (.Call (.Name a _) [] [] _) _] [.ExceptHandler (some (.Name c _)) (some n) [.Return (some (.Call (.Name x _) [.Name y _] [] _)) _] _] [] [] _, .Return (some (.Constant (.str z) _ _)) _] =>
    if (a = "call" ∧ n = "e" ∧ y = "e" ∧ z = "") ∧ Mi.locB sc "call" = true ∧ (sc.names.lookup ("e" : Str) == some NameKind.local) = true ∧ Mi.glB sc c = true ∧ Mi.glB sc x = true then some (c, x) else none
  | _ => none
/-- the exception class D is a card's, and is named lbl -/
def LblE (K : PySem.W.Frag) (mg : Str → Option Value) (L : Str) (cs : List Str) (CE D : Addr) (lbl : Str) : Prop := PySem.W.exmOne K (.ref D) (.ref CE) = some true ∧ LblD K mg L cs D lbl
structure ErrD (K : PySem.W.Frag) (mg : Str → Option Value) (x : Str) (params : Arguments) (body : List Stmt) (scope : Scope) (g : Addr) (fd : FuncData) (L : Str) (cs : List Str) (CE : Addr) : Prop where
  fn : FunD K x x params body scope [] [] g fd
  sc : FnScope NE cL scope
  bd : ∃ c nx, errOf scope body = some (c, nx) ∧ mg c = some (.ref CE) ∧ ∃ qual pa bo sn fn fdn, NamD K mg nx qual pa bo sn fn fdn L cs
  bi : L2.Binds K fd cL []
  gx : mg x = some (.ref g)
def TErr (K : PySem.W.Frag) (mg : Str → Option Value) (L : Str) (cs : List Str) (CE : Addr) : (XK → Hp → VK → Prop) → Hp → VK → Prop := fun tl H Q =>
  tl (fun cls d H' => ∃ D lbl, cls = .ref D ∧ d = none ∧ LblE K mg L cs CE D lbl ∧ ∀ H'', (∀ b o, H' b = some o → H'' b = some o) → Q (.str lbl) H'') H (fun _ H' => Q (.str "") H')
theorem err_ps {X : Cx} {k : Nat} {body : List Stmt} {sg : Scope} {g : Addr} {cdg : Value} {x : Str} {L : Str} {cs : List Str} {CE : Addr} {c nx : Str} (h : errOf sg body = some (c, nx)) (hm : X.mg c = some (.ref CE)) {qual : Str} {pa : Arguments} {bo : List Stmt} {sn : Scope} {fn : Addr} {fdn : FuncData} (N : NamD X.K X.mg nx qual pa bo sn fn fdn L cs)
    {f c' : Addr} {s : Shared} {H : Hp} {Q : VK} {tl : XK → Hp → VK → Prop} {q : Str} (hr : Room (k + 1) (X.A.deeper (envOfC x sg s.heap.objs.size g cdg)))
    (act : ∀ (W : WX) (pn : List (Addr × Obj)) (xe : Value → Shared → Prop) (E : XK) (p1 p2 : Pos), L2N.Takes ((cxOf C8.CX0 X.prog X.w X.K X.mg X.base NE x sg g cdg X.A X.stack s H C8.E0).tr pn xe) W →
      PE ((cxOf C8.CX0 X.prog X.w X.K X.mg X.base NE x sg g cdg X.A X.stack s H C8.E0).tr pn xe) (.Call (.Name "call" p1) [] [] p2) (fun σZ HZ Q => (∀ cls d H', E cls d H' → W cls d σZ H') ∧ σZ[0]? = some (some (.ref f)) ∧ HZ c' = some (CodeO c' q) ∧ tl E HZ Q))
    (hc : H c' = some (CodeO c' q)) (hT : TErr X.K X.mg L cs CE tl H Q) :
    ∃ t, PSs (cxOf C8.CX0 X.prog X.w X.K X.mg X.base NE x sg g cdg X.A X.stack s H C8.E0) body t ∧ t { nx := fun _ H' => Q .non H', rt := Q, bk := fun _ _ => False, ct := fun _ _ => False } (L2.start NE [.ref f]) H := by
  unfold errOf at h
  split at h
  · rename_i a _ _ _ c _ n xm y _ _ _ _ z _ _ _
    split at h
    · rename_i hq
      obtain ⟨⟨rfl, rfl, rfl, rfl⟩, l1, l2, l3, l4⟩ := hq
      cases h
      have he : sg.names.lookup ("e" : Str) = some .local := eq_of_beq l2
      have gl : ∀ {y : Str}, Mi.glB sg y = true → Gl (cxOf C8.CX0 X.prog X.w X.K X.mg X.base NE x sg g cdg X.A X.stack s H C8.E0) y := fun {y} h => (Mi.gl_of h).1
      refine ⟨_, pss_cons (L2N.ps_try_as (X := cxOf C8.CX0 X.prog X.w X.K X.mg X.base NE x sg g cdg X.A X.stack s H C8.E0) (c := .ref CE) (i := 1) (Wout := fun _ _ _ _ => False)
        (tb := fun W D σ H => ∃ Ech : XK, (∀ cls d H', Ech cls d H' → W cls d σ H') ∧ σ[0]? = some (some (.ref f)) ∧ H c' = some (CodeO c' q) ∧ tl Ech H (fun _ H' => D.nx σ H'))
        (ts := fun a cls d => fun D σ H => ∃ Dc lbl, cls = .ref Dc ∧ d = none ∧ LblD X.K X.mg L cs Dc lbl ∧ σ[1]? = some (some (.ref a)) ∧ ∀ H', (∀ b o, H b = some o → H' b = some o) → D.rt (.str lbl) H')
        rfl rfl (show NE.Nodup by decide +kernel) rfl he ⟨gl l3, (Mi.gl_of l3).2.1, .inl hm⟩ (fun u s' x => ?_) (fun W pn xe tk po => ?_) (fun a oe cls d pn hz hv => ?_)) (pss_one (ps_ret pe_str)), ?_⟩
      · obtain ⟨_, _, _, _, _, _, _, _, _, _, _, _, _, _, _, _, z⟩ := x
        exact z.elim
      · refine ⟨fun pins s' σ H' D I ⟨Ech, hW, h1, h2, h3⟩ => ?_⟩
        exact (pss_one (ps_expr (act W pn xe Ech _ _ tk) rfl)).run pins s' σ H' D I ⟨hW, h1, h2, h3⟩
      · refine ⟨fun pins s' σ H' D I ⟨Dc, lbl, e1, e2, hl, h1, h2⟩ => ?_⟩
        subst e1 e2
        exact (pss_one (ps_ret (pe_namesS (X := cxOf C8.CX0 X.prog X.w X.K X.mg X.base NE x sg g cdg X.A X.stack s H C8.E0) N hl hz hv hr (gl l4) (i := 1) rfl (.inl he) (Mi.gl_of l4).2.1 (by decide +kernel) (by decide +kernel)))).run pins s' σ H' D I ⟨h1, h2⟩
      · refine ⟨fun cls d H' => ∃ D lbl, cls = .ref D ∧ d = none ∧ LblE X.K X.mg L cs CE D lbl ∧ ∀ H'', (∀ b o, H' b = some o → H'' b = some o) → Q (.str lbl) H'', fun cls d H' ⟨Dc, lbl, e1, e2, ⟨e3, e4⟩, e5⟩ => ?_, rfl, hc, hT⟩
        subst e1 e2
        exact ⟨true, e3, fun _ a ha => ⟨Dc, lbl, rfl, rfl, e4, rfl, e5⟩, fun z => by cases z⟩
    · cases h
  · cases h
theorem errOf_vis {sc : Scope} {body : List Stmt} {r : Str × Str} (h : errOf sc body = some r) : Vis sc "call" := by
  unfold errOf at h
  split at h
  · split at h
    · rename_i hq
      exact (Mi.loc_of hq.2.1).elim (fun k => .inl k) (fun k => .inr (.inl k))
    · cases h
  · cases h
/-- error(lambda: e) -/
theorem pe_err {X : Cx} {T : List (Addr × Str)} {x : Str} {g c P : Addr} {k : Nat} {pg : Arguments} {bg : List Stmt} {sg : Scope} {fd : FuncData} {L : Str} {cs : List Str} {CE : Addr} {params : Arguments} {body : Expr} {scope : Scope} {t : XK → TE} {p lpos pos : Pos} (ED : ErrD X.K X.mg x pg bg sg g fd L cs CE) (hg : Gl X x)
    (TB : TabB X.base X.mg c P) (hcode : X.env.code = .ref c) (hmT : (P, X.env.qual ++ "<lambda>") ∈ T) (hu : ∀ p ∈ T, p.1 = P → p.2 = X.env.qual ++ "<lambda>") (hr : Room (k + 2) X.A) (Ls : LamS X.env.scope scope) (hdef : defaultsOf params X.env = ([], []))
    (hbind : ∀ (q : Str) (cl : List (Str × Addr)) (pm cv ctv : Value), bindArgs (PySem.W.kla_fn "<lambda>" q params body scope cl pm cv ctv) ⟨[], []⟩ = pure [])
    (hbody : ∀ (A : Around) (outer : List Env) (s : Shared) (H : Hp) (E : XK) (f c' : Addr), Room k (A.deeper (lamEnv X scope s.heap.objs.size f c')) → PE (lamN X A outer s H E scope f c') body (t E)) (hdb : (x == ("__debug__" : Str)) = false) :
    PE X (.Call (.Name x p) [.Lambda params body scope lpos] [] pos) (fun σ H Q => Tabs T H ∧ ∀ H1, ExtT H H1 → Tabs T H1 → TErr X.K X.mg L cs CE (fun E H' Q' => t E σ H' Q') H1 Q) := by
  obtain ⟨oc, od, dV, kV, doc, pm, an, cdv, ct, osl, rfl, lk, hcg, _, _⟩ := ED.fn.ex
  obtain ⟨ce, nx, hbd, hce, qual, pa, bo, sn, fn, fdn, N⟩ := ED.bd
  have Sg := ED.sc
  refine ⟨fun pins s σ H Q I ⟨hT, h⟩ => ?_⟩
  refine wpAny_Call_Name_kw (ld_glob I hg ED.gx ?_ hdb)
  refine PySem.W.callWith_K (h₀ := X.base) I.ok.mod.kin ED.fn.kp ?_ (by rfl) (by rfl)
  show wpAny _ _ (spliced ((false, eval (.Lambda params body scope lpos) X.env) :: backTo pos (starEach [] X.env))) _ _ s
  refine Calls.spliced_cons (lam_make3 I TB hcode hmT hu hT hdef (Ls.has I.ok) fun f c' pm' ctv H1 s' I1 eN T1 hf hfn hfr hco => Calls.spliced_nil ⟨I1.kIn, ?_⟩)
  have rc : codeAny (model X.prog X.w) X.A (.call (.ref g) ⟨[.ref f], []⟩) (CR C8.CX0 X.stack X.prog X.w H1 s' Q C8.E0) s' := by
    refine run_ofS (N := NE) (ps := cL) (us := [.ref f]) (vs := [.ref f]) lk hcg Sg hr I1.env0 (ED.bi s' [.ref f] I1.kIn rfl) (.cons rfl .nil) rfl fun hr' => ?_
    refine err_ps (k := k) hbd hce N hr' (fun W pn xe E p1 p2 tk => ?_) hco (h H1 eN T1)
    exact pe_actN (i := 0) I1 Ls hf hfn hfr (hbind _ _ _ _ _) tk hr' (fun A outer s H hr2 => hbody A outer s H E f c' hr2) rfl (errOf_vis hbd) (by decide +kernel) (by decide +kernel)
  refine wpAny_call (codeAny_mono rc fun r s2 hq => ?_)
  cases r with
  | error e => exact (show False from hq).elim
  | ok fl =>
    cases fl with
    | ret u => exact I1.after hq
    | next => exact False.elim hq
    | brk => exact False.elim hq
    | cont => exact False.elim hq
end Mh
set_option Elab.async false
set_option linter.all false
set_option maxRecDepth 100000
set_option maxHeartbeats 4000000
/-! Mka: error(lambda: e) in the small language. -/
namespace Mi
open PySem PySem.Spec PyProof.Rows L2 RZ
section
variable {K : PySem.W.Frag} {mg : Str → Option Value} {T : TW} {ι Z : List Addr} {H H' : Hp} {μ : List Mo}
theorem ext_up (h : ∀ b o, H b = some o → H' b = some o) : Ext ι [] H ι H' := ⟨⟨[], by simp, by simp⟩, fun a o q _ _ _ => h a o q, fun a o q => ⟨o, h a o q⟩, fun a xs q => h a _ q⟩
theorem RG.up (g : RG K mg T ι Z H μ) (h : ∀ b o, H b = some o → H' b = some o) : RG K mg T ι Z H' μ := by
  refine ⟨g.nd, g.len, fun n m hm => ?_, fun z hz => ?_, LamX.Tabs.ext g.tabs h⟩
  · obtain ⟨a, h1, h2⟩ := g.mem n m hm
    obtain ⟨o, q, _⟩ := h2.at
    exact ⟨a, h1, h2.ext (ext_up h) (by simp) (fun z q => .inl q) ((h _ _ q).trans q.symm)⟩
  · obtain ⟨⟨vs, q⟩, n⟩ := g.zl z hz
    exact ⟨⟨vs, h _ _ q⟩, n⟩
theorem ext_T (h : Mh.ExtT H H') : Ext ι [] H ι H' := ⟨⟨[], by simp, by simp⟩, fun a o q _ _ n => h.1 a o q n, fun a o q => h.2.1 a o q, fun a xs q => h.1 a _ q (fun _ z => by cases z)⟩
theorem RG.upT (g : RG K mg T ι Z H μ) (h : Mh.ExtT H H') (t : LamX.Tabs T.l H') : RG K mg T ι Z H' μ := by
  refine ⟨g.nd, g.len, fun n m hm => ?_, fun z hz => ?_, t⟩
  · obtain ⟨a, h1, h2⟩ := g.mem n m hm
    obtain ⟨o, q, _, n, _⟩ := h2.at
    exact ⟨a, h1, h2.ext (ext_T h) (by simp) (fun z q => .inl q) ((h.1 _ _ q n).trans q.symm)⟩
  · obtain ⟨⟨vs, q⟩, n⟩ := g.zl z hz
    exact ⟨⟨vs, h.1 _ _ q (fun _ z => by cases z)⟩, n⟩
end
theorem m_err {X : Cx} {T : TW} {W : WX} {x : Str} {g c P : Addr} {k : Nat} {pg : Arguments} {bg : List Stmt} {sg : Scope} {fd : FuncData} {L : Str} {cs : List Str} {CE : Addr} {params : Arguments} {body : Expr} {scope : Scope} {ce : E} {nms : List (Str × Str)} {p lpos pos : Pos} (ED : Mh.ErrD X.K X.mg x pg bg sg g fd L cs CE) (hg : Gl X x)
    (TB : LamX.TabB X.base X.mg c P) (hcode : X.env.code = .ref c) (hmT : (P, X.env.qual ++ "<lambda>") ∈ T.l) (hu : ∀ p ∈ T.l, p.1 = P → p.2 = X.env.qual ++ "<lambda>") (hr : Room (k + 2) X.A) (Ls : LamX.LamS X.env.scope scope) (hdef : defaultsOf params X.env = ([], []))
    (hbind : ∀ (q : Str) (cl : List (Str × Addr)) (pm cv ctv : Value), bindArgs (PySem.W.kla_fn "<lambda>" q params body scope cl pm cv ctv) ⟨[], []⟩ = pure [])
    (hn : ∀ c lbl, nms.lookup c = some lbl → ∀ C, X.mg c = some (.ref C) → Mh.LblE X.K X.mg L cs CE C lbl)
    (hbody : ∀ (A : Around) (outer : List Env) (s : Shared) (H : Hp) (E : XK) (f c' : Addr), Room k (A.deeper (LamX.lamEnv X scope s.heap.objs.size f c')) → PE (Mh.lamN X A outer s H E scope f c') body (tE X.K X.mg T (fun cls d _ H => E cls d H) ce)) (hdb : (x == ("__debug__" : Str)) = false) :
    PE X (.Call (.Name x p) [.Lambda params body scope lpos] [] pos) (tE X.K X.mg T W (.err nms ce)) :=
  PE.imp (Mh.pe_err (t := fun E => tE X.K X.mg T (fun cls d _ H => E cls d H) ce) ED hg TB hcode hmT hu hr Ls hdef hbind hbody hdb) fun σ H Q h => by
    obtain ⟨ι, Z, Zf, μ, δ, g, sr, hp⟩ := h
    refine ⟨g.tabs, fun H1 eT T1 => ?_⟩
    have e1 : Ext ι [] H ι H1 := ext_T eT
    refine ⟨ι, Z, Zf, μ, δ, g.upT eT T1, sr.ext g e1, ?_⟩
    simp only [ev] at hp
    match hq : ev ce δ μ, hp with
    | some (.ok a, μ1), hp => exact fun ι' b H' e' g' r' => hp ι' (.str "") H' (e1.trans0 e') g' rfl
    | some (.error (c, none), μ1), hp =>
      intro ι' H' cv dx e' g' xr
      obtain ⟨⟨C, hC, rfl⟩, rfl⟩ := xr
      replace hp : post X.K X.mg T (Rp X.K X.mg) ι Z H (optR ((nms.lookup c).map D.str) μ1) Q (WS W σ) := hp
      cases hl : nms.lookup c with
      | none => rw [hl] at hp; exact hp.elim
      | some lbl =>
        rw [hl] at hp
        exact ⟨C, lbl, rfl, rfl, hn c lbl hl C hC, fun H'' u => hp ι' (.str lbl) H'' ((e1.trans0 e').trans0 (ext_up u)) (g'.up u) rfl⟩
    | some (.error (c, some d), μ1), hp => exact hp.elim
    | none, hp => exact hp.elim
/-! ### methods of texts -/
section
variable {X : Cx} {T : TW} {W : WX} {a b : Expr} {ca cb : E} {pos apos : Pos}
theorem m_meth0 {f : Bi} {id : String} {name : Str} (slot : Slot "str" name id) (ty : typeOf (.builtin id) = pure (.type "method_descriptor")) (rule : MtR X id (rM X.K X.mg T f)) (ho : PE X a (tE X.K X.mg T W ca)) (hb : attributeBase a name X.env (eval a X.env) = eval a X.env) (hl : (apos.endLine == pos.line) = true) :
    PE X (.Call (.Attribute a name apos) [] [] pos) (tE X.K X.mg T W (.meth f ca .nil)) :=
  PE.imp (pe_m0 slot ty rule ho hb hl) fun σ H Q h => by
    obtain ⟨ι, Z, Zf, μ, δ, g, sr, hp⟩ := h
    refine ⟨ι, Z, Zf, μ, δ, g, sr, post.bind hp fun x μ1 ι1 v H1 e1 g1 r1 hp1 => ?_⟩
    cases x with
    | str z =>
      have r1' : v = V.str z := r1
      subst r1'
      simp only [evs, bindR, retR] at hp1
      unfold optR at hp1
      cases ho : f.do μ1 [.str z] with
      | none => rw [ho] at hp1; exact hp1.elim
      | some r => rw [ho] at hp1; exact ⟨⟨z, rfl⟩, ι1, Z, μ1, [.str z], r, g1, ⟨_, _, rfl, rfl, rfl⟩, ho, hp1⟩
    | _ => exact hp1.elim
theorem m_meth1 {f : Bi} {id : String} {name : Str} (slot : Slot "str" name id) (ty : typeOf (.builtin id) = pure (.type "method_descriptor")) (rule : MtR X id (rM X.K X.mg T f)) (ho : PE X a (tE X.K X.mg T W ca)) (he : PE X b (tE X.K X.mg T W cb)) (hs : starEach [b] X.env = [(false, eval b X.env)]) (hb : attributeBase a name X.env (eval a X.env) = eval a X.env) (hl : (apos.endLine == pos.line) = true) :
    PE X (.Call (.Attribute a name apos) [b] [] pos) (tE X.K X.mg T W (.meth f ca (.cons cb .nil))) :=
  PE.imp (pe_m1 slot ty rule ho he hs hb hl) fun σ H Q h => by
    obtain ⟨ι, Z, Zf, μ, δ, g, sr, hp⟩ := h
    refine ⟨ι, Z, Zf, μ, δ, g, sr, post.bind hp fun x μ1 ι1 v H1 e1 g1 r1 hp1 => ?_⟩
    cases x with
    | str z =>
      have r1' : v = V.str z := r1
      subst r1'
      refine ⟨⟨z, rfl⟩, ι1, Z, Zf, μ1, δ, g1, sr.ext g e1, ?_⟩
      have hp2 : post X.K X.mg T (Rp X.K X.mg) ι1 Z H1 (bindR (ev cb δ μ1) fun y μ => optR (f.do μ [.str z, y]) μ) Q (WS W σ) := by
        simp only [evs] at hp1
        revert hp1
        cases ev cb δ μ1 with
        | none => exact fun h => h
        | some r => obtain ⟨r, μ2⟩ := r; cases r <;> exact fun h => h
      refine post.bind hp2 fun y μ2 ι2 w H2 e2 g2 r2 hp3 => ?_
      unfold optR at hp3
      cases ho : f.do μ2 [.str z, y] with
      | none => rw [ho] at hp3; exact hp3.elim
      | some r => rw [ho] at hp3; exact ⟨ι2, Z, μ2, [.str z, y], r, g2, ⟨_, _, rfl, rfl, _, _, rfl, r2, rfl⟩, ho, hp3⟩
    | _ => exact hp1.elim
end
end Mi
set_option Elab.async false
set_option linter.all false
set_option maxRecDepth 100000
set_option maxHeartbeats 4000000
/-! Mk: the small language's terms are read off the text; what is read off is right. -/
namespace Mi
open PySem PySem.Spec PyProof.Rows L2 RZ
/-- what the reader knows: the own defs with their numbers of parameters, the constants, the exceptions, and of one def: the slots of lists that one name alone holds, the places where changeable lists are made, the rows ahead of which such a list is given out -/
structure Cf where
  fns : List (Str × Nat × Sem) := []
  cons : List (Str × D) := []
  excs : List Str := []
  lin : List Nat := []
  ml : List (Nat × Nat) := []
  still : List (Nat × List Nat) := []
  err : Option (Str × List (Str × Str)) := none
  lam : Bool := false
  tru : List (Nat × Nat) := []
  xcs : List Str := []
/-- where no lambda is made -/
def Cf.nolam (cf : Cf) : Cf := { cf with lam := false, xcs := [] }
def ixOf (x : Str) : List Str → Option Nat
  | [] => none
  | y :: ys => if decide (y = x) = true then some 0 else (ixOf x ys).map (· + 1)
def slotOf (N : List Str) (sc : Scope) (x : Str) : Option Nat := if (visB sc x && !(x == ("__debug__" : Str)) && !(x == ("__classdict__" : Str))) = true then ixOf x N else none
def opOf : Operator → Option Op
  | .Add => some .add
  | .Sub => some .sub
  | .Mult => some .mul
  | .FloorDiv => some .fdiv
  | .Mod => some .mod
  | .Pow => some .pow
  | _ => none
def cmOf : CmpOp → Op
  | .Eq => .eq
  | .NotEq => .ne
  | .Lt => .cm .lt
  | .LtE => .cm .le
  | .Gt => .cm .gt
  | .GtE => .cm .ge
  | .Is => .is_
  | .IsNot => .isn
  | .In => .in_
  | .NotIn => .nin
def tyOf (x : Str) : Option String :=
  if decide (x = "int") = true then some "int" else if decide (x = "bool") = true then some "bool" else if decide (x = "str") = true then some "str" else if decide (x = "tuple") = true then some "tuple" else if decide (x = "list") = true then some "list" else none
/-- the built-ins that are called: (which, whether it is a class) -/
def biOf (x : Str) : Option Bi :=
  if decide (x = "len") = true then some .len else if decide (x = "abs") = true then some .abs else if decide (x = "int") = true then some .int else if decide (x = "str") = true then some .str else if decide (x = "min") = true then some .min
  else if decide (x = "max") = true then some .max else if decide (x = "sum") = true then some .sum else if decide (x = "list") = true then some .list else if decide (x = "tuple") = true then some .tuple else if decide (x = "isinstance") = true then some .isi
  else if decide (x = "bool") = true then some .bool else none
def biNames : List Str := ["len", "abs", "int", "str", "min", "max", "sum", "list", "tuple", "isinstance", "bool", "range", "enumerate", "zip", "dict"]
def isSl : Expr → Bool
  | .Slice .. => true
  | _ => false
def isIf : Expr → Bool
  | .IfExp .. => true
  | _ => false
def cEsF (f : Expr → Option E) : List Expr → Option Es
  | [] => some .nil
  | e :: es => (f e).bind fun c => (cEsF f es).map fun cs => .cons c cs
def cO (f : Expr → Option E) : Option Expr → Option Eo
  | none => some .no
  | some l => (f l).map .yes
/-- the test of a comprehension -/
def cIf (f : Expr → Option E) : List Expr → Option E
  | [] => some (.con (.bl true))
  | [c] => if isIf c = true then none else f c
  | _ => none
def cBo (f : Expr → Option E) (op : BoolOp) : List Expr → Option E
  | [] => none
  | [a] => f a
  | a :: b :: r => (f a).bind fun ca => (cBo f op (b :: r)).map fun cr => (match op with
    | .And => .and_ ca cr
    | .Or => .or_ ca cr)
/-- the slots of names -/
def nmsOf (N : List Str) (sc : Scope) : List Expr → Option (List Nat)
  | [] => some []
  | .Name x _ :: es => if locB sc x = true then (ixOf x N).bind fun i => (nmsOf N sc es).map fun is => i :: is else none
  | _ => none
def cTg (N : List Str) (sc : Scope) : Expr → Option Tg
  | .Name x _ => if locB sc x = true then (ixOf x N).map .name else none
  | .Tuple [.Name x _, .Name y _] _ _ => if (locB sc x && locB sc y) = true then (ixOf x N).bind fun i => (ixOf y N).map fun j => .pair (.name i) (.name j) else none
  | .Tuple [.Name x _, .Tuple [.Name y _, .Name z _] _ _] _ _ => if (locB sc x && locB sc y && locB sc z) = true then (ixOf x N).bind fun i => (ixOf y N).bind fun j => (ixOf z N).map fun k => .pair (.name i) (.pair (.name j) (.name k)) else none
  | .Tuple [.Name x _, .Name y _, .Name z _] _ _ => if (locB sc x && locB sc y && locB sc z) = true then (ixOf x N).bind fun i => (ixOf y N).bind fun j => (ixOf z N).map fun k => .trip (.name i) (.name j) (.name k) else none
  | .Tuple (e1 :: e2 :: e3 :: e4 :: es) _ _ => (nmsOf N sc (e1 :: e2 :: e3 :: e4 :: es)).map .many
  | _ => none
def isTup : Expr → Bool
  | .Tuple .. => true
  | _ => false
def isSet : Expr → Bool
  | .Set .. => true
  | _ => false
/-- what is walked -/
def cIt (f : Expr → Option E) (sc : Scope) (cf : Cf) (tg : Expr) (e : Expr) : Option It :=
  if isSet e = true then none else match e with
  | .Call (.Name g _) [a] [] _ => if glB sc g = true ∧ cf.fns.lookup g = none then (if decide (g = "range") = true then (f a).map .rng else if decide (g = "enumerate") = true then (if isTup tg = true then (f a).map .enum else none) else (f e).map .seq) else (f e).map .seq
  | .Call (.Name g _) [a, b] [] _ => if glB sc g = true ∧ cf.fns.lookup g = none then (if decide (g = "range") = true then (f a).bind fun ca => (f b).map fun cb => .rng2 ca cb else if decide (g = "zip") = true then (if isTup tg = true then (f a).bind fun ca => (f b).map fun cb => .zip ca cb else none) else (f e).map .seq) else (f e).map .seq
  | e => (f e).map .seq
/-- the names of a comprehension's own, with their slots -/
def ownOf (N : List Str) (sc : Scope) : List (Str × Nat) := sc.names.filterMap fun p => match p.2 with
  | .local => (ixOf p.1 N).map fun i => (p.1, i)
  | .cell => (ixOf p.1 N).map fun i => (p.1, i)
  | _ => none
/-- a lambda without parameters -/
def lamOf : Expr → Option (Scope × Expr)
  | .Lambda ⟨[], [], none, [], [], none, []⟩ b s _ => some (s, b)
  | _ => none
/-- list(range(b)) -/
def rngOf (cf : Cf) (sc : Scope) (f : Str) : Expr → List Expr → Option Expr
  | .Call (.Name g _) [b] [] _, [] => if f = "list" ∧ g = "range" ∧ glB sc g = true ∧ cf.fns.lookup g = none then some b else none
  | _, _ => none
/-- the methods of texts: without an argument, with one -/
def me0 (m : Str) : Option Bi := if m = "upper" then some .upper else none
def me1 (m : Str) : Option Bi := if m = "split" then some .split else if m = "join" then some .join else none
def callB : Expr → Bool
  | .Call (.Name _ _) [] [] _ => true
  | _ => false
/-- [x] * k as a changeable list -/
def mrepOf (cf : Cf) : Expr → Operator → Option Expr
  | .List [x] p, .Mult => if (p.line, p.col) ∈ cf.ml then some x else none
  | _, _ => none
/-- dict([(x, o[x]) for x in o]): the slots of x and o -/
def dcpOf (N : List Str) (sc : Scope) (f : Str) : Expr → List Expr → Option (Nat × Nat)
  | .ListComp (.Tuple [.Name x _, .Subscript (.Name o _) (.Name x2 _) _] _ _) [⟨.Name x3 _, .Name o2 _, [], 0⟩] sc2 _, [] =>
    if (decide (f = "dict") && decide (x2 = x) && decide (x3 = x) && decide (o2 = o) && glB sc "dict" && blkC N sc sc2 (ownOf N sc2) && visB sc o && visB (relS sc2 sc) o && visB (relS sc2 sc) x && locB sc2 x && !(o == ("__debug__" : Str)) && !(o == ("__classdict__" : Str)) && !(x == ("__debug__" : Str)) && !(x == ("__classdict__" : Str))) = true
    then (ixOf x N).bind fun i => (ixOf o N).bind fun io => if i ∈ (ownOf N sc2).map (·.2) ∧ io ∉ (ownOf N sc2).map (·.2) then some (i, io) else none else none
  | _, _ => none
/-- written text keys -/
def keysOf : List (Option Expr) → Option (List Str)
  | [] => some []
  | some (.Constant (.str k) _ _) :: r => (keysOf r).map (k :: ·)
  | _ => none
def cE (cf : Cf) (N : List Str) : Nat → Scope → Expr → Option E
  | 0, _, _ => none
  | n + 1, sc, e => match e with
    | .Name x _ => (match slotOf N sc x with
      | some i => some (.var i)
      | none => if glB sc x = true then (match cf.cons.lookup x with
        | some d => some (.con d)
        | none => if (cf.fns.lookup x).isSome = true then some (.con (.glo x)) else (tyOf x).map fun t => .con (.ty t)) else none)
    | .Constant (.int i) _ _ => some (.con (.int i))
    | .Constant (.bool b) _ _ => some (.con (.bl b))
    | .Constant (.str x) _ _ => some (.con (.str x))
    | .Constant .none _ _ => some (.con .non)
    | .BinOp a op b _ => (match mrepOf cf a op with
      | some x => (cE cf N n sc x).bind fun cx => (cE cf N n sc b).map fun cb => .mrep cx cb
      | none => (opOf op).bind fun o => (cE cf N n sc a).bind fun ca => (cE cf N n sc b).map fun cb => .op o ca cb)
    | .Dict [] [] _ => some .dnew
    | .Dict keys values _ => if keys.length = values.length ∧ keys.length ≤ 15 ∧ keys ≠ [] then (keysOf keys).bind fun ks => (cEsF (cE cf N n sc) values).map fun cs => .dct ks cs else none
    | .UnaryOp .USub a _ => (cE cf N n sc a).map .neg
    | .UnaryOp .Not (.Name x px) pn => if (pn.line, pn.col) ∈ cf.tru then (cE cf N n sc (.Name x px)).map .nott else (cE cf N n sc (.Name x px)).map .not_
    | .UnaryOp .Not a _ => if isIf a = true then none else (cE cf N n sc a).map .not_
    | .BoolOp op vs _ => if vs.any isIf = true then none else cBo (cE cf N n sc) op vs
    | .Compare a [op] [b] _ => if behindInMarks op b = true then none else (cE cf N n sc a).bind fun ca => (cE cf N n sc b).map fun cb => .op (cmOf op) ca cb
    | .Compare a [op, op'] [b, c] _ => if lastMarks [op, op'] [b, c] = true then none else (cE cf N n sc a).bind fun ca => (cE cf N n sc b).bind fun cb => (cE cf N n sc c).map fun cc => .chain (cmOf op) (cmOf op') ca cb cc
    | .IfExp c a b _ => if isIf c = true then none else (cE cf N n sc c).bind fun cc => (cE cf N n sc a).bind fun ca => (cE cf N n sc b).map fun cb => .ite cc ca cb
    | .Subscript a (.Slice lo hi none _) _ => (cE cf N n sc a).bind fun ca => (cO (cE cf N n sc) lo).bind fun cl => (cO (cE cf N n sc) hi).map fun ch => .slc ca cl ch
    | .Subscript a (.Slice none none (some (.UnaryOp .USub (.Constant (.int 1) _ _) _)) _) _ => (cE cf N n sc a).map .rev
    | .Subscript a b ps => if isSl b = true then none else (cE cf N n sc b).bind fun cb => (match a with
      | .Name x _ => (match slotOf N sc x with
        | some i => if i ∈ cf.lin ∧ (ps.line, ps.col) ∉ cf.tru then some (.lidx i cb) else (cE cf N n sc a).map fun ca => .idx ca cb
        | none => (cE cf N n sc a).map fun ca => .idx ca cb)
      | a => (cE cf N n sc a).map fun ca => .idx ca cb)
    | .Tuple es _ _ => (cEsF (cE cf N n sc) es).map .tup
    | .List es p => (cEsF (cE cf N n sc) es).map fun cs => if (p.line, p.col) ∈ cf.ml then .mlst cs else .lst cs
    | .Call (.Name f _) (a :: es) [] pc => if glB sc f = true then (match lamOf a with
      | some (s, b) => (match es with
        | [] => (match cf.err with
          | some (x, nms) => if (cf.lam && decide (x = f) && LamX.lamSB sc s) = true then (cE cf.nolam N n s b).map (.err nms) else none
          | none => none)
        | _ => none)
      | none => (match cf.fns.lookup f with
        | some (k, F) => if es.length + 1 = k then (cEsF (cE cf N n sc) (a :: es)).map fun cs => .call F cs else none
        | none => (match rngOf cf sc f a es with
          | some b => (cE cf N n sc b).map .lrng
          | none => (match dcpOf N sc f a es with
            | some (i, io) => some (.dcp i (.var io))
            | none => if f = "list" ∧ (pc.line, pc.col) ∈ cf.ml ∧ es = [] then (cE cf N n sc a).map .mcp else (biOf f).bind fun g => (cEsF (cE cf N n sc) (a :: es)).map fun cs => .bi g cs)))) else (match slotOf N sc f with
      | some i => (cEsF (cE cf N n sc) (a :: es)).map fun cs => .dyn i cf.fns cs
      | none => none)
    | .Call (.Attribute o m ap) [] [] cp => if callB o = false ∧ (ap.endLine == cp.line) = true then (me0 m).bind fun f => (cE cf N n sc o).map fun co => .meth f co .nil else none
    | .Call (.Attribute o m ap) [e] [] cp => if callB o = false ∧ (ap.endLine == cp.line) = true then (me1 m).bind fun f => (cE cf N n sc o).bind fun co => (cE cf N n sc e).map fun ce => .meth f co (.cons ce .nil) else none
    | .Call (.Attribute o m ap) [e, e2] [] cp => if callB o = false ∧ (ap.endLine == cp.line) = true ∧ m = "get" then (cE cf N n sc o).bind fun co => (cE cf N n sc e).bind fun ce => (cE cf N n sc e2).map fun ce2 => .dget co ce ce2 else none
    | .ListComp elt [⟨tg, iter, ifs, 0⟩] sc2 _ => if blkC N sc sc2 (ownOf N sc2) = true then (cTg N sc2 tg).bind fun ct => if ct.slots.all (fun i => decide (i ∈ (ownOf N sc2).map (·.2))) = true then (cIt (cE cf N n sc) sc cf tg iter).bind fun ci => (cIf (cE cf.nolam N n (relS sc2 sc)) ifs).bind fun cc => (cE cf.nolam N n (relS sc2 sc) elt).map fun ce => .comp ce ct ci cc ((ownOf N sc2).map (·.2)) else none else none
    | .ListComp elt [⟨tg, iter, ifs, 0⟩, ⟨tg1, iter1, ifs1, 0⟩] sc2 _ => if blkC N sc sc2 (ownOf N sc2) = true then (cTg N sc2 tg).bind fun ct => (cTg N sc2 tg1).bind fun ct1 =>
      if (ct.slots.all (fun i => decide (i ∈ (ownOf N sc2).map (·.2))) && ct1.slots.all (fun i => decide (i ∈ (ownOf N sc2).map (·.2)))) = true then
        (cIt (cE cf N n sc) sc cf tg iter).bind fun ci => (cIf (cE cf.nolam N n (relS sc2 sc)) ifs).bind fun cc => (cIt (cE cf.nolam N n (relS sc2 sc)) (relS sc2 sc) cf.nolam tg1 iter1).bind fun ci1 => (cIf (cE cf.nolam N n (relS sc2 sc)) ifs1).bind fun cc1 =>
          (cE cf.nolam N n (relS sc2 sc) elt).map fun ce => .compn ce ct ci cc (.cons ct1 ci1 cc1 ct1.slots .nil) ((ownOf N sc2).map (·.2)) else none else none
    | .ListComp elt [⟨tg, iter, ifs, 0⟩, ⟨tg1, iter1, ifs1, 0⟩, ⟨tg2, iter2, ifs2, 0⟩] sc2 _ => if blkC N sc sc2 (ownOf N sc2) = true then (cTg N sc2 tg).bind fun ct => (cTg N sc2 tg1).bind fun ct1 => (cTg N sc2 tg2).bind fun ct2 =>
      if (ct.slots.all (fun i => decide (i ∈ (ownOf N sc2).map (·.2))) && (ct1.slots ++ ct2.slots).all (fun i => decide (i ∈ (ownOf N sc2).map (·.2)))) = true then
        (cIt (cE cf N n sc) sc cf tg iter).bind fun ci => (cIf (cE cf.nolam N n (relS sc2 sc)) ifs).bind fun cc => (cIt (cE cf.nolam N n (relS sc2 sc)) (relS sc2 sc) cf.nolam tg1 iter1).bind fun ci1 => (cIf (cE cf.nolam N n (relS sc2 sc)) ifs1).bind fun cc1 =>
          (cIt (cE cf.nolam N n (relS sc2 sc)) (relS sc2 sc) cf.nolam tg2 iter2).bind fun ci2 => (cIf (cE cf.nolam N n (relS sc2 sc)) ifs2).bind fun cc2 =>
          (cE cf.nolam N n (relS sc2 sc) elt).map fun ce => .compn ce ct ci cc (.cons ct1 ci1 cc1 (ct1.slots ++ ct2.slots) (.cons ct2 ci2 cc2 ct2.slots .nil)) ((ownOf N sc2).map (·.2)) else none else none
    | _ => none
/-- list(range(..)) is read ahead of the rest -/
theorem ixOf_ok {x : Str} : ∀ {N : List Str} {i : Nat}, ixOf x N = some i → N[i]? = some x
  | [], _, h => by simp [ixOf] at h
  | y :: ys, i, h => by
    unfold ixOf at h
    split at h
    · rename_i e
      cases h
      simp only [List.getElem?_cons_zero, Option.some.injEq]
      exact of_decide_eq_true e
    · simp only [Option.map_eq_some_iff] at h
      obtain ⟨j, h1, rfl⟩ := h
      simpa using ixOf_ok h1
/-! ### where one stands -/
abbrev veB : List Value := [.type "ValueError", .type "Exception", .type "BaseException", .type "object"]
structure Cxt (X : Cx) (cf : Cf) (N : List Str) (sc : Scope) (T : TW) (W : WX) (j k : Nat) : Prop where
  hN : X.N = N
  nd : N.Nodup
  hsc : X.env.scope = sc
  calm : X.calm = true
  room : Room k X.A
  jk : j ≤ k
  tk : L2N.Takes X W
  fns : ∀ x a F, cf.fns.lookup x = some (a, F) → ∃ f fd ps, X.mg x = some (.ref f) ∧ PySem.W.keepIn X.K (.ref f) = true ∧ Binds X.K fd ps [] ∧ FnOk X.prog X.w X.K X.mg X.base (L2N.CX X.prog X.w) j f fd ps (spF X.K X.mg T a F)
  cons : ∀ x d, cf.cons.lookup x = some d → ∃ v u, X.mg x = some u ∧ RelV v u ∧ ∀ ι Z H, Rp X.K X.mg ι Z H d v
  bis : ∀ x ∈ biNames, X.mg x = none
  excs : ∀ c ∈ cf.excs, ∃ C, X.mg c = some (.ref C) ∧ PySem.W.excIn X.K C veB "ValueError.__new__" = true ∧ PySem.W.keepIn X.K (.ref C) = true ∧ Raises X (.ref C)
  err : ∀ x nms, cf.err = some (x, nms) → ∃ g pg bg sg fd L cs CE, Mh.ErrD X.K X.mg x pg bg sg g fd L cs CE ∧ ∀ c lbl, nms.lookup c = some lbl → ∀ C, X.mg c = some (.ref C) → Mh.LblE X.K X.mg L cs CE C lbl
  lam : cf.lam = true → j + 2 ≤ k ∧ ∃ c P, X.env.code = .ref c ∧ LamX.TabB X.base X.mg c P ∧ (P, X.env.qual ++ "<lambda>") ∈ T.l ∧ ∀ p ∈ T.l, p.1 = P → p.2 = X.env.qual ++ "<lambda>"
  xcs : ∀ c ∈ cf.xcs, ∃ C, XcD X.prog X.w X.K X.mg X.base 1 c C
  xk : cf.xcs ≠ [] → 2 ≤ k
  tw : T.w = X.w
theorem Cxt.blk {X : Cx} {cf : Cf} {N : List Str} {sc : Scope} {T : TW} {W : WX} {j k : Nat} (C : Cxt X cf N sc T W j k) (scope : Scope) (s : Shared) (H : Hp) (cl : List (Str × Addr)) (a : Addr) (fp : List Addr) :
    Cxt (X.blk s H scope (compEnvC scope cl a X.env) fp) cf.nolam N (relS scope sc) T WF j k :=
  ⟨C.hN, C.nd, by rw [← C.hsc]; rfl, C.calm, C.room, C.jk, takesF, C.fns, C.cons, C.bis, fun c hc => C.excs c hc, C.err, fun z => (by cases z), fun c hc => (by cases hc), fun z => absurd rfl z, C.tw⟩
theorem Cxt.lamN {X : Cx} {cf : Cf} {N : List Str} {sc : Scope} {T : TW} {W : WX} {j k : Nat} (C : Cxt X cf N sc T W j (k + 2)) (hjk : j ≤ k) (scope : Scope) (A : Around) (outer : List Env) (s : Shared) (H : Hp) (E : XK) (f c' : Addr) (hr : Room k (A.deeper (LamX.lamEnv X scope s.heap.objs.size f c'))) :
    Cxt (Mh.lamN X A outer s H E scope f c') cf.nolam N scope T (fun cls d _ H => E cls d H) j k :=
  ⟨C.hN, C.nd, rfl, rfl, hr, hjk, Mh.lamN_takes, C.fns, C.cons, C.bis, fun c hc => C.excs c hc, C.err, fun z => (by cases z), fun c hc => (by cases hc), fun z => absurd rfl z, C.tw⟩
theorem slot_of {N : List Str} {sc : Scope} {x : Str} {i : Nat} (h : slotOf N sc x = some i) : Vis sc x ∧ N[i]? = some x ∧ (x == ("__debug__" : Str)) = false ∧ (x == ("__classdict__" : Str)) = false := by
  unfold slotOf at h
  split at h
  · rename_i e
    simp only [Bool.and_eq_true, Bool.not_eq_true'] at e
    exact ⟨vis_of e.1.1, ixOf_ok h, e.1.2, e.2⟩
  · cases h
def isStar : Expr → Bool
  | .Starred .. => true
  | _ => false
theorem star1 {e : Expr} {es : List Expr} {env : Env} (h : isStar e = false) : starEach (e :: es) env = (false, eval e env) :: starEach es env := by
  cases e <;> first | rfl | (simp [isStar] at h)
theorem back0 {pos : Pos} {env : Env} : ∀ {es : List Expr}, es.all (fun e => !isStar e) = true → (backTo pos (starEach es env)).any (·.1) = false
  | [], _ => rfl
  | e :: es, h => by
    simp only [List.all_cons, Bool.and_eq_true, Bool.not_eq_true'] at h
    rw [star1 h.1]
    have := back0 (pos := pos) (env := env) h.2
    unfold backTo at this ⊢
    simp only [List.map_cons, List.any_cons, this, Bool.or_false]
theorem cE_star {cf : Cf} {N : List Str} {n : Nat} {sc : Scope} {e : Expr} {c : E} (h : cE cf N n sc e = some c) : isStar e = false := by
  cases n with
  | zero => simp [cE] at h
  | succ n => cases e <;> first | rfl | (simp [cE] at h)
theorem cEs_star {cf : Cf} {N : List Str} {n : Nat} {sc : Scope} : ∀ {es : List Expr} {cs : Es}, cEsF (cE cf N n sc) es = some cs → es.all (fun e => !isStar e) = true
  | [], _, _ => rfl
  | e :: es, cs, h => by
    unfold cEsF at h
    simp only [Option.bind_eq_some_iff, Option.map_eq_some_iff] at h
    obtain ⟨c, h1, cs', h2, rfl⟩ := h
    simp only [List.all_cons, Bool.and_eq_true, Bool.not_eq_true']
    exact ⟨cE_star h1, cEs_star h2⟩
theorem cEs_len {f : Expr → Option E} : ∀ {es : List Expr} {cs : Es}, cEsF f es = some cs → ∀ δ μ xs μ', evs cs δ μ = some (.ok xs, μ') → xs.length = es.length
  | [], cs, h, δ, μ, xs, μ', hx => by
    simp only [cEsF, Option.some.injEq] at h
    subst h
    simp only [evs, retR, Option.some.injEq, Prod.mk.injEq, Except.ok.injEq] at hx
    rw [← hx.1]; rfl
  | e :: es, cs, h, δ, μ, xs, μ', hx => by
    unfold cEsF at h
    simp only [Option.bind_eq_some_iff, Option.map_eq_some_iff] at h
    obtain ⟨c, h1, cs', h2, rfl⟩ := h
    simp only [evs] at hx
    match hq : ev c δ μ, hx with
    | some (.ok d, μ1), hx =>
      simp only [bindR] at hx
      match hr : evs cs' δ μ1, hx with
      | some (.ok ds, μ2), hx =>
        simp only [retR, Option.some.injEq, Prod.mk.injEq, Except.ok.injEq] at hx
        rw [← hx.1, List.length_cons, List.length_cons, cEs_len h2 _ _ _ _ hr]
theorem bi_ok {X : Cx} {T : TW} (hc : X.calm = true) {x : Str} {f : Bi} (h : biOf x = some f) : x ∈ biNames ∧ ((∃ id, bootBuiltins x = some (.builtin id) ∧ CallR X (.builtin id) (rb X.K X.mg T f)) ∨ ∃ id, bootBuiltins x = some (.type id) ∧ CallR X (.type id) (rb X.K X.mg T f)) := by
  unfold biOf at h
  repeat (split at h; · (cases h; rename_i e; have e := of_decide_eq_true e; subst e; refine ⟨by decide +kernel, ?_⟩; first
    | exact .inl ⟨_, by decide +kernel, cb_len⟩ | exact .inl ⟨_, by decide +kernel, cb_abs⟩ | exact .inr ⟨_, by decide +kernel, cb_int⟩ | exact .inr ⟨_, by decide +kernel, cb_str⟩ | exact .inl ⟨_, by decide +kernel, cb_min hc⟩
    | exact .inl ⟨_, by decide +kernel, cb_max hc⟩ | exact .inl ⟨_, by decide +kernel, cb_sum hc⟩ | exact .inr ⟨_, by decide +kernel, cb_list hc⟩ | exact .inr ⟨_, by decide +kernel, cb_tuple⟩ | exact .inl ⟨_, by decide +kernel, cb_isi⟩
    | exact .inr ⟨_, by decide +kernel, cb_bool⟩))
  cases h
/-! ### targets, what is walked -/
section
variable {X : Cx} {cf : Cf} {N : List Str} {sc : Scope} {T : TW} {W : WX} {j k : Nat}
theorem tg1 (hN : X.N = N) (nd : N.Nodup) {sw : Scope} (L : LocOk X sw) {x : Str} {i : Nat} {pos : Pos} (h : locB sw x = true) (hi : ixOf x N = some i) : PG X (.Name x pos) (gT X.K X.mg T (.name i)) :=
  mg_name (by rw [hN]; exact nd) (by rw [hN]; exact ixOf_ok hi) (L x h).1 (L x h).2
theorem nms_ok (hN : X.N = N) (nd : N.Nodup) {sw : Scope} (L : LocOk X sw) : ∀ {es : List Expr} {is : List Nat}, nmsOf N sw es = some is → es.all isNm = true ∧ Paired (fun e i => PG X e (gT X.K X.mg T (.name i))) es is
  | [], is, h => by cases h; exact ⟨rfl, .nil⟩
  | e :: es, is, h => by
    cases e with
    | Name x p =>
      unfold nmsOf at h
      split at h
      · rename_i hx
        simp only [Option.bind_eq_some_iff, Option.map_eq_some_iff] at h
        obtain ⟨i, hi, is', h1, rfl⟩ := h
        obtain ⟨q1, q2⟩ := nms_ok hN nd L h1
        exact ⟨q1, .cons (tg1 hN nd L hx hi) q2⟩
      · cases h
    | _ => cases h
theorem tg_ok (hN : X.N = N) (nd : N.Nodup) (hc : X.calm = true) {sw : Scope} (L : LocOk X sw) {e : Expr} {ct : Tg} (h : cTg N sw e = some ct) : PG X e (gT X.K X.mg T ct) := by
  unfold cTg at h
  split at h
  · split at h
    · rename_i hx
      simp only [Option.map_eq_some_iff] at h
      obtain ⟨i, hi, rfl⟩ := h
      exact tg1 hN nd L hx hi
    · cases h
  · split at h
    · rename_i hx
      simp only [Bool.and_eq_true] at hx
      simp only [Option.bind_eq_some_iff, Option.map_eq_some_iff] at h
      obtain ⟨i, hi, j, hj, rfl⟩ := h
      exact mg_pair hc (tg1 hN nd L hx.1 hi) (tg1 hN nd L hx.2 hj) rfl rfl rfl rfl
    · cases h
  · split at h
    · rename_i hx
      simp only [Bool.and_eq_true] at hx
      simp only [Option.bind_eq_some_iff, Option.map_eq_some_iff] at h
      obtain ⟨i, hi, j, hj, l, hl, rfl⟩ := h
      exact mg_pair hc (tg1 hN nd L hx.1.1 hi) (mg_pair hc (tg1 hN nd L hx.1.2 hj) (tg1 hN nd L hx.2 hl) rfl rfl rfl rfl) rfl rfl rfl rfl
    · cases h
  · split at h
    · rename_i hx
      simp only [Bool.and_eq_true] at hx
      simp only [Option.bind_eq_some_iff, Option.map_eq_some_iff] at h
      obtain ⟨i, hi, j, hj, l, hl, rfl⟩ := h
      exact mg_trip hc (tg1 hN nd L hx.1.1 hi) (tg1 hN nd L hx.1.2 hj) (tg1 hN nd L hx.2 hl) rfl rfl rfl rfl rfl
    · cases h
  · simp only [Option.map_eq_some_iff] at h
    obtain ⟨is, h1, rfl⟩ := h
    obtain ⟨q1, q2⟩ := nms_ok (T := T) hN nd L h1
    exact mg_many hc q1 q2
  · cases h
theorem pa_ok {f : Expr → Option E} (hs : ∀ e c, f e = some c → isStar e = false) (ih : ∀ e c, f e = some c → PE X e (tE X.K X.mg T W c)) : ∀ {es : List Expr} {cs : Es}, cEsF f es = some cs → PA X es (tEs X.K X.mg T W cs)
  | [], cs, h => by
    simp only [cEsF, Option.some.injEq] at h
    subst h
    exact m_nil
  | e :: es, cs, h => by
    unfold cEsF at h
    simp only [Option.bind_eq_some_iff, Option.map_eq_some_iff] at h
    obtain ⟨c, h1, cs', h2, rfl⟩ := h
    exact m_cons (ih _ _ h1) (pa_ok hs ih h2) (star1 (hs _ _ h1))
theorem gl_X (C : Cxt X cf N sc T W j k) {x : Str} (h : glB sc x = true) : Gl X x := by
  have := (gl_of h).1
  rw [← C.hsc] at this
  exact this
theorem fold_ok {f : Expr → Option E} {tg e : Expr} {ci : It} (h : cIt f sc cf tg e = some ci) (env : Env) (x : Value) : foldedSetIterable e env x = pure x := by
  unfold cIt at h
  split at h
  · cases h
  · rename_i hset
    cases e <;> first | rfl | (simp [isSet] at hset)
theorem trees2 {k x : Expr} {cp : Pos} {env : Env} (h1 : isStar k = false) (h2 : isStar x = false) : backTo cp (starEach [k, x] env) = [(false, eval k env), (false, eval x env)] := by
  rw [star1 h1, star1 h2]; rfl
theorem it_ok (C : Cxt X cf N sc T W j k) {f : Expr → Option E} (hs : ∀ e c, f e = some c → isStar e = false) (ih : ∀ e c, f e = some c → PE X e (tE X.K X.mg T W c)) {tg e : Expr} {ci : It} (h : cIt f sc cf tg e = some ci) :
    PI X tg e (tI X.K X.mg T W ci) ∧ ∀ x, foldedSetIterable e X.env x = pure x := by
  unfold cIt at h
  split at h
  · cases h
  · rename_i hset
    have hfold : ∀ x, foldedSetIterable e X.env x = pure x := by
      intro x
      cases e <;> first | rfl | (simp [isSet] at hset)
    have seq : ∀ {ci}, (f e).map It.seq = some ci → PI X tg e (tI X.K X.mg T W ci) := fun {ci} h => by
      simp only [Option.map_eq_some_iff] at h
      obtain ⟨c, h1, rfl⟩ := h
      exact mi_seq (ih _ _ h1)
    refine ⟨?_, hfold⟩
    split at h
    · split at h
      · rename_i hg
        split at h
        · rename_i e1
          have e1 := of_decide_eq_true e1
          subst e1
          simp only [Option.map_eq_some_iff] at h
          obtain ⟨c, h1, rfl⟩ := h
          exact mi_rng (gl_X C hg.1) (C.bis _ (by decide +kernel)) (m_cons (ih _ _ h1) m_nil (star1 (hs _ _ h1))) (star1 (hs _ _ h1))
        · split at h
          · rename_i e1
            have e1 := of_decide_eq_true e1
            subst e1
            split at h
            · rename_i htg
              simp only [Option.map_eq_some_iff] at h
              obtain ⟨c, h1, rfl⟩ := h
              cases tg <;> first | (simp [isTup] at htg; done) | exact mi_enum (gl_X C hg.1) (C.bis _ (by decide +kernel)) (m_cons (ih _ _ h1) m_nil (star1 (hs _ _ h1))) (star1 (hs _ _ h1))
            · cases h
          · exact seq h
      · exact seq h
    · split at h
      · rename_i hg
        split at h
        · rename_i e1
          have e1 := of_decide_eq_true e1
          subst e1
          simp only [Option.bind_eq_some_iff, Option.map_eq_some_iff] at h
          obtain ⟨c, h1, c2, h2, rfl⟩ := h
          exact mi_rng2 (gl_X C hg.1) (C.bis _ (by decide +kernel)) (m_cons (ih _ _ h1) (m_cons (ih _ _ h2) m_nil (star1 (hs _ _ h2))) (star1 (hs _ _ h1))) (by rw [star1 (hs _ _ h1), star1 (hs _ _ h2)]; rfl) (star1 (hs _ _ h2))
        · split at h
          · rename_i e1
            have e1 := of_decide_eq_true e1
            subst e1
            split at h
            · rename_i htg
              simp only [Option.bind_eq_some_iff, Option.map_eq_some_iff] at h
              obtain ⟨c, h1, c2, h2, rfl⟩ := h
              cases tg <;> first | (simp [isTup] at htg; done) | exact mi_zip (gl_X C hg.1) (C.bis _ (by decide +kernel)) (m_cons (ih _ _ h1) (m_cons (ih _ _ h2) m_nil (star1 (hs _ _ h2))) (star1 (hs _ _ h1))) (star1 (hs _ _ h1)) (back0 (by simp [hs _ _ h2]))
            · cases h
          · exact seq h
      · exact seq h
    · exact seq h
end
end Mi
set_option Elab.async false
set_option linter.all false
set_option maxRecDepth 100000
set_option maxHeartbeats 4000000
/-! Me: what is read off an expression is right. -/
namespace Mi
open PySem PySem.Spec PyProof.Rows L2 RZ
section
variable {N : List Str} {T : TW} {k : Nat}
theorem ok_op {X : Cx} {T : TW} {op : Operator} {o : Op} (h : opOf op = some o) : OpR X (binaryOp op) (r2 X.K X.mg T o) := by
  cases op <;> simp only [opOf, Option.some.injEq] at h <;> first | (subst h; first | exact ok_add | exact ok_sub | exact ok_mul | exact ok_mod | exact ok_pow | exact ok_fdiv) | cases h
theorem ok_cmop {X : Cx} {T : TW} (hw : T.w = X.w) (hr : Room k X.A) (op : CmpOp) : OpR X (compareOp op) (r2 X.K X.mg T (cmOf op)) := by
  have hu := hr.un
  have h1 : X.A.units + 65 < cLine := by omega
  cases op with
  | Eq => exact ok_eq (by omega)
  | NotEq => exact ok_ne (by omega)
  | Lt => exact ok_cm .lt (by omega)
  | LtE => exact ok_cm .le (by omega)
  | Gt => exact ok_cm .gt (by omega)
  | GtE => exact ok_cm .ge (by omega)
  | Is => exact ok_is
  | IsNot => exact ok_isn
  | In => exact ok_in hw h1
  | NotIn => exact ok_nin hw h1
theorem bo_ok {X : Cx} {W : WX} {f : Expr → Option E} (ih : ∀ e c, f e = some c → PE X e (tE X.K X.mg T W c) ∧ (isIf e = false → PT X e (tT X.K X.mg T W c))) {op : BoolOp} : ∀ {vs : List Expr} {pos : Pos} {c : E}, cBo f op vs = some c → vs.any isIf = false → PE X (.BoolOp op vs pos) (tE X.K X.mg T W c) ∧ PW X (.BoolOp op vs pos) (tT X.K X.mg T W c)
  | [], _, _, h, _ => by simp [cBo] at h
  | [a], pos, c, h, hv => by
    simp only [List.any_cons, List.any_nil, Bool.or_false] at hv
    obtain ⟨h1, h2⟩ := ih _ _ (show f a = some c from h)
    cases op with
    | And => exact ⟨pe_one h1, m_andT1 (h2 hv)⟩
    | Or => exact ⟨pe_one h1, m_orT1 (h2 hv)⟩
  | a :: b :: r, pos, c, h, hv => by
    unfold cBo at h
    simp only [Option.bind_eq_some_iff, Option.map_eq_some_iff] at h
    obtain ⟨ca, h1, cr, h2, rfl⟩ := h
    rw [List.any_cons, Bool.or_eq_false_iff] at hv
    obtain ⟨p1, p2⟩ := ih _ _ h1
    obtain ⟨q1, q2⟩ := bo_ok ih (pos := pos) h2 hv.2
    cases op with
    | And => exact ⟨m_andV p1 q1, m_andT (p2 hv.1) q2⟩
    | Or => exact ⟨m_orV p1 q1, m_orT (p2 hv.1) q2⟩
theorem o_ok {X : Cx} {W : WX} {f : Expr → Option E} (ih : ∀ e c, f e = some c → PE X e (tE X.K X.mg T W c)) : ∀ {o : Option Expr} {c : Eo}, cO f o = some c → PO X o (tR X.K X.mg T W (fun _ _ _ (a b : Option Int) => a = b) (evo c))
  | none, c, h => by
    simp only [cO, Option.some.injEq] at h
    subst h
    exact m_no
  | some e, c, h => by
    simp only [cO, Option.map_eq_some_iff] at h
    obtain ⟨c, h1, rfl⟩ := h
    exact m_yes (ih _ _ h1)
theorem plainIx {b : Expr} (h : isSl b = false) : PlainIx b := by
  intro o i
  cases b <;> first | rfl | (simp [isSl] at h)
theorem boot_ty {x : Str} {t : String} (h : tyOf x = some t) : x ∈ biNames ∧ bootBuiltins x = some (.type t) := by
  unfold tyOf at h
  repeat (split at h; · (cases h; rename_i e; have e := of_decide_eq_true e; subst e; exact ⟨by decide +kernel, by decide +kernel⟩))
  cases h
theorem if_ok {X : Cx} {W : WX} {f : Expr → Option E} (ih : ∀ e c, f e = some c → PE X e (tE X.K X.mg T W c) ∧ (isIf e = false → PT X e (tT X.K X.mg T W c))) : ∀ {ifs : List Expr} {c : E}, cIf f ifs = some c → PTs X ifs (tT X.K X.mg T W c)
  | [], c, h => by
    simp only [cIf, Option.some.injEq] at h
    subst h
    refine ⟨fun pins s σ H Q I hh => pts_nil.run pins s σ H Q I ?_⟩
    obtain ⟨ι, Z, Zf, μ, δ, g, sr, hp⟩ := hh
    simp only [evT, ev] at hp
    exact post.ret (a := true) (b := true) hp g rfl
  | [e], c, h => by
    simp only [cIf] at h
    split at h
    · cases h
    · rename_i hi
      exact pts_one ((ih _ _ h).2 (by simpa using hi))
  | _ :: _ :: _, c, h => by simp [cIf] at h
theorem val_T {X : Cx} {W : WX} {e : Expr} {c : E} (h : PE X e (tE X.K X.mg T W c)) (hs : (match e with
  | .UnaryOp .Not _ _ => true
  | .BoolOp .. => true
  | .IfExp .. => true
  | .Compare .. => true
  | _ => false) = false) : PT X e (tT X.K X.mg T W c) := by
  refine m_val h fun whole => ?_
  cases e with
  | UnaryOp op a p => cases op <;> first | rfl | (simp at hs)
  | BoolOp _ _ _ => simp at hs
  | IfExp _ _ _ _ => simp at hs
  | Compare _ _ _ _ => simp at hs
  | _ => rfl
theorem me0_ok {X : Cx} {T : TW} {m : Str} {f : Bi} (h : me0 m = some f) : ∃ id, Slot "str" m id ∧ typeOf (.builtin id) = pure (.type "method_descriptor") ∧ MtR X id (rM X.K X.mg T f) := by
  unfold me0 at h
  split at h <;> cases h
  rename_i e; subst e
  exact ⟨_, F.slot_str_upper, F.type_str_upper, mb_upper⟩
theorem me1_ok {X : Cx} {T : TW} {m : Str} {f : Bi} (h : me1 m = some f) : ∃ id, Slot "str" m id ∧ typeOf (.builtin id) = pure (.type "method_descriptor") ∧ MtR X id (rM X.K X.mg T f) := by
  unfold me1 at h
  split at h
  · cases h
    rename_i e; subst e
    exact ⟨_, F.slot_str_split, F.type_str_split, mb_split⟩
  · split at h <;> cases h
    rename_i e; subst e
    exact ⟨_, F.slot_str_join, F.type_str_join, mb_join⟩
theorem base_ok {o : Expr} {m : Str} {env : Env} (h : callB o = false) : attributeBase o m env (eval o env) = eval o env := by
  unfold attributeBase
  split
  · simp [callB] at h
  · rfl
theorem mrepOf_inv {cf : Cf} {a x : Expr} {op : Operator} (h : mrepOf cf a op = some x) : ∃ p, a = .List [x] p ∧ op = .Mult := by
  unfold mrepOf at h
  split at h
  · split at h
    · cases h; exact ⟨_, rfl, rfl⟩
    · cases h
  · cases h
theorem keysOf_all : ∀ {keys : List (Option Expr)} {ks : List Str}, keysOf keys = some ks → keys.all (·.isSome) = true
  | [], _, _ => rfl
  | k :: keys, ks, h => by
    unfold keysOf at h
    split at h
    · rename_i z; cases z
    · rename_i z
      cases z
      simp only [Option.map_eq_some_iff] at h
      obtain ⟨r, h1, rfl⟩ := h
      simp [keysOf_all h1]
    · cases h
theorem keysOf_len : ∀ {keys : List (Option Expr)} {ks : List Str}, keysOf keys = some ks → ks.length = keys.length
  | [], ks, h => by simp only [keysOf, Option.some.injEq] at h; subst h; rfl
  | k :: keys, ks, h => by
    unfold keysOf at h
    split at h
    · rename_i z; cases z
    · rename_i z
      cases z
      simp only [Option.map_eq_some_iff] at h
      obtain ⟨r, h1, rfl⟩ := h
      simp [keysOf_len h1]
    · cases h
theorem cEsF_len {f : Expr → Option E} : ∀ {es : List Expr} {cs : Es}, cEsF f es = some cs → lenE cs = es.length
  | [], cs, h => by simp only [cEsF, Option.some.injEq] at h; subst h; rfl
  | e :: es, cs, h => by
    unfold cEsF at h
    simp only [Option.bind_eq_some_iff, Option.map_eq_some_iff] at h
    obtain ⟨c, h1, cs', h2, rfl⟩ := h
    simp [lenE, cEsF_len h2]
theorem pps_ok {X : Cx} {W : WX} {f : Expr → Option E} (ih : ∀ e c, f e = some c → PE X e (tE X.K X.mg T W c)) {pos : Pos} : ∀ {keys : List (Option Expr)} {ks : List Str} {values : List Expr} {cs : Es}, keys.length = values.length → keysOf keys = some ks → cEsF f values = some cs → PPs X pos keys values (trsOf X.K X.mg T W ks cs)
  | [], ks, [], cs, _, h, h2 => by
    simp only [keysOf, Option.some.injEq] at h
    simp only [cEsF, Option.some.injEq] at h2
    subst h h2
    exact pps_nil
  | k :: keys, ks, v :: values, cs, hl, h, h2 => by
    unfold keysOf at h
    unfold cEsF at h2
    simp only [Option.bind_eq_some_iff, Option.map_eq_some_iff] at h2
    obtain ⟨c, h3, cs', h4, rfl⟩ := h2
    split at h
    · rename_i z; cases z
    · rename_i z
      cases z
      simp only [Option.map_eq_some_iff] at h
      obtain ⟨r, h1, rfl⟩ := h
      exact pps_cons pe_str (ih _ _ h3) (pps_ok ih (by simpa using hl) h1 h4)
    · cases h
  | [], ks, v :: values, cs, hl, h, h2 => by simp at hl
  | k :: keys, ks, [], cs, hl, h, h2 => by simp at hl
theorem rngOf_inv {cf : Cf} {sc : Scope} {f : Str} {a b : Expr} {es : List Expr} (h : rngOf cf sc f a es = some b) : ∃ p2 p3, f = "list" ∧ a = .Call (.Name "range" p2) [b] [] p3 ∧ es = [] ∧ glB sc "range" = true := by
  unfold rngOf at h
  split at h
  · split at h
    · rename_i hq
      obtain ⟨rfl, rfl, h3, h4⟩ := hq
      cases h
      exact ⟨_, _, rfl, rfl, rfl, h3⟩
    · cases h
  · cases h
theorem dcpOf_inv {sc : Scope} {f : Str} {a : Expr} {es : List Expr} {i io : Nat} (h : dcpOf N sc f a es = some (i, io)) : ∃ x px1 po1 px2 ps1 kt pt1 px3 po2 sc2 pl o, f = "dict" ∧ es = [] ∧ a = .ListComp (.Tuple [.Name x px1, .Subscript (.Name o po1) (.Name x px2) ps1] kt pt1) [⟨.Name x px3, .Name o po2, [], 0⟩] sc2 pl ∧
    glB sc "dict" = true ∧ blkC N sc sc2 (ownOf N sc2) = true ∧ visB sc o = true ∧ visB (relS sc2 sc) o = true ∧ visB (relS sc2 sc) x = true ∧ locB sc2 x = true ∧ (o == ("__debug__" : Str)) = false ∧ (o == ("__classdict__" : Str)) = false ∧ (x == ("__debug__" : Str)) = false ∧ (x == ("__classdict__" : Str)) = false ∧
    ixOf x N = some i ∧ ixOf o N = some io ∧ i ∈ (ownOf N sc2).map (·.2) ∧ io ∉ (ownOf N sc2).map (·.2) := by
  unfold dcpOf at h
  split at h
  · split at h
    · rename_i hq
      simp only [Bool.and_eq_true, decide_eq_true_eq, Bool.not_eq_true'] at hq
      obtain ⟨⟨⟨⟨⟨⟨⟨⟨⟨⟨⟨⟨⟨q1, q2⟩, q3⟩, q4⟩, q5⟩, q6⟩, q7⟩, q8⟩, q9⟩, q10⟩, q11⟩, q12⟩, q13⟩, q14⟩ := hq
      subst q1 q2 q3 q4
      simp only [Option.bind_eq_some_iff] at h
      obtain ⟨i', h1, io', h2, h3⟩ := h
      split at h3
      · rename_i hm
        cases h3
        exact ⟨_, _, _, _, _, _, _, _, _, _, _, _, rfl, rfl, rfl, q5, q6, q7, q8, q9, q10, q11, q12, q13, q14, h1, h2, hm.1, hm.2⟩
      · cases h3
    · cases h
  · cases h
theorem lamOf_inv {a b : Expr} {s : Scope} (h : lamOf a = some (s, b)) : ∃ p, a = .Lambda ⟨[], [], none, [], [], none, []⟩ b s p := by
  unfold lamOf at h
  split at h
  · cases h; exact ⟨_, rfl⟩
  · cases h
theorem e_ok : ∀ (n : Nat) (cf : Cf) (sc : Scope) (e : Expr) (c : E), cE cf N n sc e = some c → ∀ (X : Cx) (W : WX) (j k : Nat), Cxt X cf N sc T W j k → PE X e (tE X.K X.mg T W c) ∧ (isIf e = false → PT X e (tT X.K X.mg T W c)) := by
  intro n
  induction n with
  | zero => intro cf sc e c h; simp [cE] at h
  | succ n ih =>
    intro cf sc e c h X W j k C
    have ihE : ∀ e c, cE cf N n sc e = some c → PE X e (tE X.K X.mg T W c) := fun e c h => (ih cf sc e c h X W j k C).1
    have ihB : ∀ e c, cE cf N n sc e = some c → PE X e (tE X.K X.mg T W c) ∧ (isIf e = false → PT X e (tT X.K X.mg T W c)) := fun e c h => ih cf sc e c h X W j k C
    unfold cE at h
    split at h
    · -- Name
      rename_i x pos
      have hPE : PE X (.Name x pos) (tE X.K X.mg T W c) := by
        split at h
        · rename_i i hi
          cases h
          obtain ⟨h1, h2, h3, h4⟩ := slot_of hi
          exact m_var (by rw [C.hN]; exact h2) (by rw [C.hsc]; exact h1) h3 h4
        · split at h
          · rename_i hg
            split at h
            · rename_i d hd
              cases h
              obtain ⟨v, u, h1, h2, h3⟩ := C.cons _ _ hd
              exact m_glob (gl_X C hg) h1 h2 h3 (gl_of hg).2.1
            · split at h
              · rename_i hf
                cases h
                obtain ⟨⟨a, F⟩, hf⟩ := Option.isSome_iff_exists.mp hf
                obtain ⟨f, fd, ps, hm, hk, hb, FO⟩ := C.fns _ _ _ hf
                exact m_glob (v := .ref f) (gl_X C hg) hm rfl (fun ι Z H => ⟨f, hm, rfl⟩) (gl_of hg).2.1
              simp only [Option.map_eq_some_iff] at h
              obtain ⟨t, h1, rfl⟩ := h
              obtain ⟨h2, h3⟩ := boot_ty h1
              exact m_blt (gl_X C hg) (C.bis _ h2) h3 (gl_of hg).2.2 (gl_of hg).2.1
          · cases h
      exact ⟨hPE, fun _ => val_T hPE rfl⟩
    · cases h; exact ⟨m_int, fun _ => val_T m_int rfl⟩
    · cases h; exact ⟨m_bl, fun _ => val_T m_bl rfl⟩
    · cases h; exact ⟨m_str, fun _ => val_T m_str rfl⟩
    · cases h; exact ⟨m_non, fun _ => val_T m_non rfl⟩
    · -- BinOp
      split at h
      · rename_i x hx
        obtain ⟨lp, rfl, rfl⟩ := mrepOf_inv hx
        simp only [Option.bind_eq_some_iff, Option.map_eq_some_iff] at h
        obtain ⟨cx, h1, cb, h2, rfl⟩ := h
        exact ⟨m_mrep (ihE _ _ h1) (ihE _ _ h2) (star1 (cE_star h1)), fun _ => val_T (m_mrep (ihE _ _ h1) (ihE _ _ h2) (star1 (cE_star h1))) rfl⟩
      · simp only [Option.bind_eq_some_iff, Option.map_eq_some_iff] at h
        obtain ⟨o, h1, ca, h2, cb, h3, rfl⟩ := h
        have := m_op (pos := ‹Pos›) (ok_op (X := X) (T := T) h1) (ihE _ _ h2) (ihE _ _ h3)
        exact ⟨this, fun _ => val_T this rfl⟩
    · cases h; exact ⟨m_dnew C.tw, fun _ => val_T (m_dnew C.tw) rfl⟩
    · -- dict
      split at h
      · rename_i hq
        simp only [Option.bind_eq_some_iff, Option.map_eq_some_iff] at h
        obtain ⟨ks, h1, cs, h2, rfl⟩ := h
        have hPE := m_dct (pos := ‹Pos›) (pps_ok ihE hq.1 h1 h2) (keysOf_all h1) hq.1 hq.2.2 hq.2.1 (by rw [keysOf_len h1, hq.1, cEsF_len h2])
        exact ⟨hPE, fun _ => val_T hPE rfl⟩
      · cases h
    · simp only [Option.map_eq_some_iff] at h
      obtain ⟨ca, h1, rfl⟩ := h
      have := m_neg (pos := ‹Pos›) (ihE _ _ h1)
      exact ⟨this, fun _ => val_T this rfl⟩
    · -- not of a name
      split at h
      · simp only [Option.map_eq_some_iff] at h
        obtain ⟨ca, h1, rfl⟩ := h
        exact ⟨m_nott (ihE _ _ h1), fun _ => m_nottT (ihE _ _ h1)⟩
      · simp only [Option.map_eq_some_iff] at h
        obtain ⟨ca, h1, rfl⟩ := h
        exact ⟨m_notV (ihE _ _ h1), fun _ => m_notT ((ihB _ _ h1).2 rfl)⟩
    · split at h
      · cases h
      · rename_i hi
        simp only [Option.map_eq_some_iff] at h
        obtain ⟨ca, h1, rfl⟩ := h
        exact ⟨m_notV (ihE _ _ h1), fun _ => m_notT ((ihB _ _ h1).2 (by simpa using hi))⟩
    · split at h
      · cases h
      · rename_i hi
        obtain ⟨p, q⟩ := bo_ok ihB (pos := ‹Pos›) h (by simpa using hi)
        exact ⟨p, fun _ => q.pt⟩
    · split at h
      · cases h
      · rename_i hm
        simp only [Option.bind_eq_some_iff, Option.map_eq_some_iff] at h
        obtain ⟨ca, h2, cb, h3, rfl⟩ := h
        have hm' := Bool.eq_false_iff.mpr hm
        exact ⟨m_cmp (ok_cmop C.tw C.room _) (ihE _ _ h2) (ihE _ _ h3) hm', fun _ => m_cmpT (ok_cmop C.tw C.room _) (ihE _ _ h2) (ihE _ _ h3) hm'⟩
    · split at h
      · cases h
      · rename_i hm
        simp only [Option.bind_eq_some_iff, Option.map_eq_some_iff] at h
        obtain ⟨ca, h2, cb, h3, cc, h4, rfl⟩ := h
        have hm' := Bool.eq_false_iff.mpr hm
        exact ⟨m_chain (ok_cmop C.tw C.room _) (ok_cmop C.tw C.room _) (ihE _ _ h2) (ihE _ _ h3) (ihE _ _ h4) hm', fun _ => m_chainT (ok_cmop C.tw C.room _) (ok_cmop C.tw C.room _) (ihE _ _ h2) (ihE _ _ h3) (ihE _ _ h4) hm'⟩
    · split at h
      · cases h
      · rename_i hi
        simp only [Option.bind_eq_some_iff, Option.map_eq_some_iff] at h
        obtain ⟨cc, h2, ca, h3, cb, h4, rfl⟩ := h
        exact ⟨m_ite ((ihB _ _ h2).2 (by simpa using hi)) (ihE _ _ h3) (ihE _ _ h4), fun z => by simp [isIf] at z⟩
    · -- slice
      simp only [Option.bind_eq_some_iff, Option.map_eq_some_iff] at h
      obtain ⟨ca, h2, cl, h3, ch, h4, rfl⟩ := h
      exact ⟨m_slc (ihE _ _ h2) (o_ok ihE h3) (o_ok ihE h4), fun _ => val_T (m_slc (ihE _ _ h2) (o_ok ihE h3) (o_ok ihE h4)) rfl⟩
    · -- from the end
      simp only [Option.map_eq_some_iff] at h
      obtain ⟨ca, h1, rfl⟩ := h
      exact ⟨m_rev (ihE _ _ h1), fun _ => val_T (m_rev (ihE _ _ h1)) rfl⟩
    · -- item
      rename_i a b pos hne hne2
      have hPE : PE X (.Subscript a b pos) (tE X.K X.mg T W c) := by
        split at h
        · cases h
        · rename_i hs
          have hs := plainIx (Bool.eq_false_iff.mpr hs)
          simp only [Option.bind_eq_some_iff] at h
          obtain ⟨cb, h2, h⟩ := h
          have fin : ∀ {a}, (cE cf N n sc a).map (fun ca => E.idx ca cb) = some c → PE X (.Subscript a b pos) (tE X.K X.mg T W c) := fun {a} h => by
            simp only [Option.map_eq_some_iff] at h
            obtain ⟨ca, h3, rfl⟩ := h
            exact m_idx C.tw (by have := C.room.un; omega) (ihE _ _ h3) (ihE _ _ h2) hs
          split at h
          · split at h
            · rename_i i hi
              split at h
              · cases h
                obtain ⟨h1, h3, h4, h5⟩ := slot_of hi
                exact m_lidx (by rw [C.hN]; exact h3) (by rw [C.hsc]; exact h1) h4 h5 (ihE _ _ h2) hs
              · exact fin h
            · exact fin h
          · exact fin h
      exact ⟨hPE, fun _ => val_T hPE rfl⟩
    · simp only [Option.map_eq_some_iff] at h
      obtain ⟨cs, h1, rfl⟩ := h
      have hPE := m_tup (pos := ‹Pos›) (k := ‹Nat›) (pa_ok (fun _ _ h => cE_star h) ihE h1)
      exact ⟨m_tup (pa_ok (fun _ _ h => cE_star h) ihE h1), fun _ => val_T (m_tup (pa_ok (fun _ _ h => cE_star h) ihE h1)) rfl⟩
    · simp only [Option.map_eq_some_iff] at h
      obtain ⟨cs, h1, rfl⟩ := h
      have hpa := pa_ok (W := W) (fun _ _ h => cE_star h) ihE h1
      split
      · exact ⟨m_mlst hpa, fun _ => val_T (m_mlst hpa) rfl⟩
      · exact ⟨m_lst hpa, fun _ => val_T (m_lst hpa) rfl⟩
    · -- call
      rename_i f p a es pos
      have hPE : PE X (.Call (.Name f p) (a :: es) [] pos) (tE X.K X.mg T W c) := by
        split at h
        · rename_i hg
          split at h
          · rename_i s2 b2 hla
            obtain ⟨lp, rfl⟩ := lamOf_inv hla
            split at h
            · split at h
              · rename_i xe nms he
                split at h
                · rename_i hq
                  simp only [Bool.and_eq_true, decide_eq_true_eq] at hq
                  obtain ⟨⟨q1, rfl⟩, q3⟩ := hq
                  simp only [Option.map_eq_some_iff] at h
                  obtain ⟨ce, h1, rfl⟩ := h
                  obtain ⟨hjk, cc, P, l1, l2, l3, l4⟩ := C.lam q1
                  obtain ⟨g, pg, bg, sg, fd, L, cs, CE, ED, hn⟩ := C.err _ _ he
                  obtain ⟨k', rfl⟩ : ∃ k', k = k' + 2 := ⟨k - 2, by omega⟩
                  refine m_err ED (gl_X C hg) l2 l1 l3 l4 C.room (by rw [C.hsc]; exact LamX.lamS_by q3) rfl (fun _ _ _ _ _ => rfl) hn (fun A outer s H E f c' hr => ?_) (gl_of hg).2.1
                  exact (ih _ _ _ _ h1 _ _ j k' (C.lamN (by omega) s2 A outer s H E f c' hr)).1
                · cases h
              · cases h
            · cases h
          · rename_i hla
            split at h
            · rename_i kk F hf
              split at h
              · rename_i hl
                simp only [Option.map_eq_some_iff] at h
                obtain ⟨cs, h1, rfl⟩ := h
                have hst := cEs_star h1
                simp only [List.all_cons, Bool.and_eq_true, Bool.not_eq_true'] at hst
                obtain ⟨f, fd, ps, hm, hk, hb, FO⟩ := C.fns _ _ _ hf
                exact m_call (FO.mono C.jk) C.room (gl_X C hg) hm hk hb C.tk hl (pa_ok (fun _ _ h => cE_star h) ihE h1) (gl_of hg).2.1 (star1 hst.1) (back0 hst.2) (fun δ μ xs μ' hx => by rw [cEs_len h1 _ _ _ _ hx, List.length_cons]; exact hl)
              · cases h
            · split at h
              · rename_i b hr
                obtain ⟨p2, p3, rfl, rfl, rfl, h3⟩ := rngOf_inv hr
                simp only [Option.map_eq_some_iff] at h
                obtain ⟨cb, h1, rfl⟩ := h
                exact m_lrng C.calm (gl_X C hg) (C.bis _ (by decide +kernel)) (gl_X C h3) (C.bis _ (by decide +kernel)) (ihE _ _ h1) (star1 (cE_star h1))
              · split at h
                · rename_i i io hd
                  cases h
                  obtain ⟨x, px1, po1, px2, ps1, kt, pt1, px3, po2, sc2, pl, o, rfl, rfl, rfl, d1, d2, d3, d4, d5, d6, d7, d8, d9, d10, d11, d12, d13, d14⟩ := dcpOf_inv hd
                  have hok : BlkOk X.N X.env.scope sc2 (ownOf N sc2) := by rw [C.hN, C.hsc]; exact blkOk_by d2
                  refine m_dcp C.calm (by have := C.room.un; omega) (gl_X C d1) (C.bis _ (by decide +kernel)) (by rw [C.hN]; exact C.nd) hok d14 d13 (by rw [C.hN]; exact ixOf_ok d11) (by rw [C.hN]; exact ixOf_ok d12) (by rw [C.hsc]; exact vis_of d3) d7 d8 d9 d10 (fun s H a cl fp => ?_) (fun s H a cl fp => ?_)
                  · have L := locOk_blk (X := X) (scope := sc2) (s := s) (H := H) (cl := cl) (a := a) (fp := fp) x d6
                    refine ⟨?_, L.1, L.2⟩
                    rw [(C.blk sc2 s H cl a fp).hsc]; exact vis_of d5
                  · rw [(C.blk sc2 s H cl a fp).hsc]; exact vis_of d4
                · split at h
                  · rename_i hq
                    obtain ⟨rfl, _, rfl⟩ := hq
                    simp only [Option.map_eq_some_iff] at h
                    obtain ⟨ca, h1, rfl⟩ := h
                    exact m_mcp (gl_X C hg) (C.bis _ (by decide +kernel)) (ihE _ _ h1) (star1 (cE_star h1))
                  simp only [Option.bind_eq_some_iff, Option.map_eq_some_iff] at h
                  obtain ⟨g, hg1, cs, h1, rfl⟩ := h
                  have hst := cEs_star h1
                  simp only [List.all_cons, Bool.and_eq_true, Bool.not_eq_true'] at hst
                  obtain ⟨hn, hh⟩ := bi_ok (T := T) C.calm hg1
                  rcases hh with ⟨id, hv, hc⟩ | ⟨id, hv, hc⟩
                  · exact m_bi hc (gl_X C hg) (C.bis _ hn) hv (pa_ok (fun _ _ h => cE_star h) ihE h1) (gl_of hg).2.2 (gl_of hg).2.1 (star1 hst.1) (back0 hst.2)
                  · exact m_biT hc (gl_X C hg) (C.bis _ hn) hv (pa_ok (fun _ _ h => cE_star h) ihE h1) (gl_of hg).2.2 (gl_of hg).2.1 (star1 hst.1) (back0 hst.2)
        · split at h
          · rename_i i hi
            simp only [Option.map_eq_some_iff] at h
            obtain ⟨cs, h1, rfl⟩ := h
            have hst := cEs_star h1
            simp only [List.all_cons, Bool.and_eq_true, Bool.not_eq_true'] at hst
            obtain ⟨v1, v2, v3, v4⟩ := slot_of hi
            exact m_dyn (k := k) (fun z a F hz => by
              obtain ⟨f, fd, ps, hm, hk, hb, FO⟩ := C.fns _ _ _ hz
              exact ⟨f, fd, ps, hm, hk, hb, FO.mono C.jk⟩) C.room (by rw [C.hN]; exact v2) (by rw [C.hsc]; exact v1) C.tk (pa_ok (fun _ _ h => cE_star h) ihE h1) v3 v4 (star1 hst.1) (back0 hst.2)
          · cases h
      exact ⟨hPE, fun _ => val_T hPE rfl⟩
    · -- methods of texts
      rename_i o m ap cp
      split at h
      · rename_i hq
        simp only [Option.bind_eq_some_iff, Option.map_eq_some_iff] at h
        obtain ⟨f, h1, co, h2, rfl⟩ := h
        obtain ⟨id, m1, m2, m3⟩ := me0_ok (X := X) (T := T) h1
        have hPE := m_meth0 m1 m2 m3 (ihE _ _ h2) (base_ok hq.1) hq.2
        exact ⟨hPE, fun _ => val_T hPE rfl⟩
      · cases h
    · rename_i o m ap e cp
      split at h
      · rename_i hq
        simp only [Option.bind_eq_some_iff, Option.map_eq_some_iff] at h
        obtain ⟨f, h1, co, h2, ce, h3, rfl⟩ := h
        obtain ⟨id, m1, m2, m3⟩ := me1_ok (X := X) (T := T) h1
        have hPE := m_meth1 m1 m2 m3 (ihE _ _ h2) (ihE _ _ h3) (star1 (cE_star h3)) (base_ok hq.1) hq.2
        exact ⟨hPE, fun _ => val_T hPE rfl⟩
      · cases h
    · rename_i o m ap e e2 cp
      split at h
      · rename_i hq
        obtain ⟨q1, q2, rfl⟩ := hq
        simp only [Option.bind_eq_some_iff, Option.map_eq_some_iff] at h
        obtain ⟨co, h1, ce, h2, ce2, h3, rfl⟩ := h
        have hPE := m_dget (X := X) (T := T) (W := W) C.tw (by have := C.room.un; omega) (ihE _ _ h1) (ihE _ _ h2) (ihE _ _ h3) ⟨base_ok q1, by rw [trees2 (cE_star h2) (cE_star h3)]; rfl, q2, trees2 (cE_star h2) (cE_star h3)⟩
        exact ⟨hPE, fun _ => val_T hPE rfl⟩
      · cases h
    · -- comprehension
      rename_i elt tg iter ifs sc2 pos
      have hPE : PE X (.ListComp elt [⟨tg, iter, ifs, 0⟩] sc2 pos) (tE X.K X.mg T W c) := by
        split at h
        · rename_i hblk
          simp only [Option.bind_eq_some_iff] at h
          obtain ⟨ct, h1, h⟩ := h
          split at h
          · rename_i hsl
            simp only [Option.bind_eq_some_iff, Option.map_eq_some_iff] at h
            obtain ⟨ci, h2, cc, h3, ce, h4, rfl⟩ := h
            obtain ⟨p1, p2⟩ := it_ok C (fun _ _ h => cE_star h) ihE h2
            have hok : BlkOk X.N X.env.scope sc2 (ownOf N sc2) := by rw [C.hN, C.hsc]; exact blkOk_by hblk
            refine m_comp C.calm (by rw [C.hN]; exact C.nd) p1 hok (fun s H a cl fp => ?_) (fun s H a cl fp => ?_) (fun s H a cl fp => ?_) p2 _ rfl (fun i hi => ?_)
            · exact tg_ok (X := X.blk s H sc2 (compEnvC sc2 cl a X.env) fp) C.hN C.nd C.calm locOk_blk h1
            · exact if_ok (X := X.blk s H sc2 (compEnvC sc2 cl a X.env) fp) (fun e c h => ih _ _ e c h _ _ j k (C.blk sc2 s H cl a fp)) h3
            · exact (ih _ _ _ _ h4 _ _ j k (C.blk sc2 s H cl a fp)).1
            · exact of_decide_eq_true (List.all_eq_true.mp hsl i hi)
          · cases h
        · cases h
      exact ⟨hPE, fun _ => val_T hPE rfl⟩
    · rename_i elt tg iter ifs tg1 iter1 ifs1 sc2 pos
      have hPE : PE X (.ListComp elt [⟨tg, iter, ifs, 0⟩, ⟨tg1, iter1, ifs1, 0⟩] sc2 pos) (tE X.K X.mg T W c) := by
        split at h
        · rename_i hblk
          simp only [Option.bind_eq_some_iff] at h
          obtain ⟨ct, h1, ct1, h11, h⟩ := h
          split at h
          · rename_i hsl
            rw [Bool.and_eq_true] at hsl
            simp only [Option.bind_eq_some_iff, Option.map_eq_some_iff] at h
            obtain ⟨ci, h2, cc, h3, ci1, h21, cc1, h31, ce, h4, rfl⟩ := h
            obtain ⟨p1, p2⟩ := it_ok C (fun _ _ h => cE_star h) ihE h2
            have hok : BlkOk X.N X.env.scope sc2 (ownOf N sc2) := by rw [C.hN, C.hsc]; exact blkOk_by hblk
            have gg := fun (s : Shared) (H : Hp) (a : Addr) (cl : List (Str × Addr)) (fp : List Addr) (t : Expr) (c : Tg) (h : cTg N sc2 t = some c) => tg_ok (X := X.blk s H sc2 (compEnvC sc2 cl a X.env) fp) (T := T) C.hN C.nd C.calm locOk_blk h
            have tt := fun (s : Shared) (H : Hp) (a : Addr) (cl : List (Str × Addr)) (fp : List Addr) (t : List Expr) (c : E) (h : cIf (cE cf.nolam N n (relS sc2 sc)) t = some c) => if_ok (X := X.blk s H sc2 (compEnvC sc2 cl a X.env) fp) (T := T) (W := WF) (fun e c h => ih _ _ e c h _ _ j k (C.blk sc2 s H cl a fp)) h
            have ii := fun (s : Shared) (H : Hp) (a : Addr) (cl : List (Str × Addr)) (fp : List Addr) (t e : Expr) (c : It) (h : cIt (cE cf.nolam N n (relS sc2 sc)) (relS sc2 sc) cf.nolam t e = some c) => (it_ok (C.blk sc2 s H cl a fp) (fun _ _ h => cE_star h) (fun e c h => (ih _ _ e c h _ _ j k (C.blk sc2 s H cl a fp)).1) h).1
            exact m_compn2 C.calm (by rw [C.hN]; exact C.nd) hok rfl (fun i hi => of_decide_eq_true (List.all_eq_true.mp hsl.1 i hi)) p1 p2
              (fun s H a cl fp => gg s H a cl fp _ _ h1) (fun s H a cl fp => tt s H a cl fp _ _ h3) (fun s H a cl fp => gg s H a cl fp _ _ h11) (fun s H a cl fp => tt s H a cl fp _ _ h31)
              (fun s H a cl fp => ii s H a cl fp _ _ _ h21) (fold_ok h21) (fun _ z => z) (fun i hi => of_decide_eq_true (List.all_eq_true.mp hsl.2 i hi))
              (fun s H a cl fp => (ih _ _ _ _ h4 _ _ j k (C.blk sc2 s H cl a fp)).1)
          · cases h
        · cases h
      exact ⟨hPE, fun _ => val_T hPE rfl⟩
    · rename_i elt tg iter ifs tg1 iter1 ifs1 tg2 iter2 ifs2 sc2 pos
      have hPE : PE X (.ListComp elt [⟨tg, iter, ifs, 0⟩, ⟨tg1, iter1, ifs1, 0⟩, ⟨tg2, iter2, ifs2, 0⟩] sc2 pos) (tE X.K X.mg T W c) := by
        split at h
        · rename_i hblk
          simp only [Option.bind_eq_some_iff] at h
          obtain ⟨ct, h1, ct1, h11, ct2, h12, h⟩ := h
          split at h
          · rename_i hsl
            rw [Bool.and_eq_true] at hsl
            simp only [Option.bind_eq_some_iff, Option.map_eq_some_iff] at h
            obtain ⟨ci, h2, cc, h3, ci1, h21, cc1, h31, ci2, h22, cc2, h32, ce, h4, rfl⟩ := h
            obtain ⟨p1, p2⟩ := it_ok C (fun _ _ h => cE_star h) ihE h2
            have hok : BlkOk X.N X.env.scope sc2 (ownOf N sc2) := by rw [C.hN, C.hsc]; exact blkOk_by hblk
            have gg := fun (s : Shared) (H : Hp) (a : Addr) (cl : List (Str × Addr)) (fp : List Addr) (t : Expr) (c : Tg) (h : cTg N sc2 t = some c) => tg_ok (X := X.blk s H sc2 (compEnvC sc2 cl a X.env) fp) (T := T) C.hN C.nd C.calm locOk_blk h
            have tt := fun (s : Shared) (H : Hp) (a : Addr) (cl : List (Str × Addr)) (fp : List Addr) (t : List Expr) (c : E) (h : cIf (cE cf.nolam N n (relS sc2 sc)) t = some c) => if_ok (X := X.blk s H sc2 (compEnvC sc2 cl a X.env) fp) (T := T) (W := WF) (fun e c h => ih _ _ e c h _ _ j k (C.blk sc2 s H cl a fp)) h
            have ii := fun (s : Shared) (H : Hp) (a : Addr) (cl : List (Str × Addr)) (fp : List Addr) (t e : Expr) (c : It) (h : cIt (cE cf.nolam N n (relS sc2 sc)) (relS sc2 sc) cf.nolam t e = some c) => (it_ok (C.blk sc2 s H cl a fp) (fun _ _ h => cE_star h) (fun e c h => (ih _ _ e c h _ _ j k (C.blk sc2 s H cl a fp)).1) h).1
            exact m_compn3 C.calm (by rw [C.hN]; exact C.nd) hok rfl (fun i hi => of_decide_eq_true (List.all_eq_true.mp hsl.1 i hi)) p1 p2
              (fun s H a cl fp => gg s H a cl fp _ _ h1) (fun s H a cl fp => tt s H a cl fp _ _ h3) (fun s H a cl fp => gg s H a cl fp _ _ h11) (fun s H a cl fp => tt s H a cl fp _ _ h31) (fun s H a cl fp => gg s H a cl fp _ _ h12) (fun s H a cl fp => tt s H a cl fp _ _ h32)
              (fun s H a cl fp => ii s H a cl fp _ _ _ h21) (fold_ok h21) (fun i z => List.mem_append_left _ z) (fun i hi => of_decide_eq_true (List.all_eq_true.mp hsl.2 i hi))
              (fun s H a cl fp => ii s H a cl fp _ _ _ h22) (fold_ok h22) (fun _ z => z) (fun i z => List.mem_append_right _ z)
              (fun s H a cl fp => (ih _ _ _ _ h4 _ _ j k (C.blk sc2 s H cl a fp)).1)
          · cases h
        · cases h
      exact ⟨hPE, fun _ => val_T hPE rfl⟩
    · cases h
end
end Mi
set_option Elab.async false
set_option linter.all false
set_option maxRecDepth 100000
set_option maxHeartbeats 4000000
/-! Mz: statements read off the text; a def's body. -/
namespace Mi
open PySem PySem.Spec PyProof.Rows L2 RZ
def isComp : Expr → Bool
  | .ListComp .. => true
  | .SetComp .. => true
  | .DictComp .. => true
  | _ => false
def swN (sc : Scope) (ts : List Expr) : List Str := ts.filterMap fun
  | .Name id pos => if (sc.names.lookup id == some .local && pos.line == (ts.head?.map (·.pos.line)).getD 0) = true then some id else none
  | _ => none
/-- what swappedStores comes to -/
def swP (sc : Scope) (ts vs : List Expr) : Option (Option (List Str)) :=
  if (!(ts.length == 2 || ts.length == 3) || vs.length != ts.length) = true then some none
  else if (vs.any fun | .Starred .. => true | _ => false) = true then some none
  else if ((swN sc ts).length != ts.length || (swN sc ts).eraseDups.length != (swN sc ts).length) = true then some none
  else if vs.all (foldedForSure 8) = true then some none
  else if vs.all (constantsAlone 8) = true then none
  else some (some (swN sc ts))
theorem swP_ok {sc : Scope} {env : Env} {ts vs : List Expr} {k k2 : Nat} {p p2 : Pos} {r : Option (List Str)} (hs : env.scope = sc) (hk : sc.kind = .function) (h : swP sc ts vs = some r) : swappedStores [.Tuple ts k p] (.Tuple vs k2 p2) env = pure r := by
  subst hs
  have hb : env.blockKind = .function := by unfold Env.blockKind; rw [hk]; rfl
  unfold swP at h
  unfold swappedStores
  simp only [hb]
  split at h
  · rename_i h1
    cases h
    simp only [bne_self_eq_false, Bool.or_false, h1, if_true]
  · rename_i h1
    simp only [bne_self_eq_false, Bool.or_false, h1, if_false]
    split at h
    · rename_i h2
      cases h
      exact if_pos h2
    · rename_i h2
      refine (if_neg h2).trans ?_
      show (if ((swN env.scope ts).length != ts.length || (swN env.scope ts).eraseDups.length != (swN env.scope ts).length) = true then pure none else if vs.all (foldedForSure 8) = true then pure none
        else if vs.all (constantsAlone 8) = true then (do
          unsupported "assign.tuple-of-constant-expressions:order-of-the-stores"
          pure (some (swN env.scope ts))) else pure (some (swN env.scope ts))) = pure r
      split at h
      · rename_i h3
        cases h
        exact if_pos h3
      · rename_i h3
        refine (if_neg h3).trans ?_
        split at h
        · rename_i h4
          cases h
          exact if_pos h4
        · rename_i h4
          refine (if_neg h4).trans ?_
          split at h
          · cases h
          · rename_i h5
            cases h
            exact if_neg h5
section
variable {X : Cx} {T : TW} {W : WX} {pos : Pos}
theorem s_par3 {i j l : Nat} {x y z : Str} {a b c : Expr} {ca : Es} {px py pz pt : Pos} {kt k2 pt2} (hc : X.calm = true) (hN : X.N.Nodup) (hi : X.N[i]? = some x) (hj : X.N[j]? = some y) (hl : X.N[l]? = some z) (hij : i ≠ j) (hil : i ≠ l) (hjl : j ≠ l)
    (hx : X.env.scope.names.lookup x = some .local) (hy : X.env.scope.names.lookup y = some .local) (hz : X.env.scope.names.lookup z = some .local) (ha : PA X [a, b, c] (tEs X.K X.mg T W ca))
    (hw : swappedStores [.Tuple [.Name x px, .Name y py, .Name z pz] kt pt] (.Tuple [a, b, c] k2 pt2) X.env = pure (some [x, y, z]))
    (hs : swapsWithSole [.Tuple [.Name x px, .Name y py, .Name z pz] kt pt] (.Tuple [a, b, c] k2 pt2) pos.line X.env = pure false) :
    PS X (.Assign [.Tuple [.Name x px, .Name y py, .Name z pz] kt pt] (.Tuple [a, b, c] k2 pt2) pos) (tS X.K X.mg T W (.set (.trip (.name i) (.name j) (.name l)) (.tup ca))) :=
  PS.imp (ps_par3 hc hN hi hj hl hij hil hjl hx hy hz ha hw hs) fun D σ H h => by
    obtain ⟨ι, Zo, Zf, μ, δ, s, hp⟩ := h
    simp only [ex, ev] at hp
    refine ⟨ι, Zo ++ Zf, Zf, μ, δ, s.g, s.s, ?_⟩
    have hp2 : pS X.K X.mg T W (thenE (evs ca δ μ) δ fun xs μ => if xs.length ≤ sizeLine then ((Tg.trip (.name i) (.name j) (.name l)).put (.tup xs) δ).bind fun δ => some (.nx, δ, μ) else none) ι Zo Zf H D := by
      cases h : evs ca δ μ with
      | none => rw [h] at hp; exact hp
      | some r =>
        obtain ⟨r, μ1⟩ := r
        cases r with
        | error e => rw [h] at hp; exact hp
        | ok xs =>
          rw [h] at hp
          simp only [bindR] at hp
          split at hp
          · rename_i hz; simp only [if_pos hz]; exact hp
          · exact hp.elim
    refine hp2.thenE s fun xs μ1 ι1 vs H1 e1 r1 s1 h1 => ?_
    split at h1
    · cases hq : (Tg.trip (.name i) (.name j) (.name l)).put (.tup xs) δ with
      | none => rw [hq] at h1; exact h1.elim
      | some δ' =>
        obtain ⟨u, w, w3, δ1, δ2, e, p1, p2, p3⟩ := put_trip hq
        cases e
        rw [hq] at h1
        simp only [Tg.put, Option.some.injEq] at p1 p2 p3
        subst p1 p2 p3
        obtain ⟨v, vs', rfl, r2, r1⟩ := r1
        obtain ⟨v', v3, rfl, r3, r4⟩ := Rps.two r1
        exact ⟨v, v', v3, rfl, h1.nx ⟨s1.g, ((s1.s.set r2).set r3).set r4, s1.dj⟩⟩
    · exact h1.elim
end
def lineOf : Stmt → Nat
  | .Return _ p => p.line
  | .Assign _ _ p => p.line
  | .Expr _ p => p.line
  | .If _ _ _ p => p.line
  | .For _ _ _ _ p => p.line
  | .While _ _ _ p => p.line
  | .Raise _ _ p => p.line
  | _ => 0
def addStill : List Nat → Ss → Ss
  | [], s => s
  | i :: is, s => .cons (.still i) (addStill is s)
def cSsF (cf : Cf) (f : Stmt → Option St) : List Stmt → Option Ss
  | [] => some .nil
  | s :: r => (cSsF cf f r).map fun cs => addStill ((cf.still.lookup (lineOf s)).getD []) (.cons ((f s).getD .bot) cs)
/-- is an assignment of a tuple to a tuple in order? -/
def swG (sc : Scope) : Expr → Expr → Bool
  | .Tuple ts _ _, .Tuple vs _ _ => (swP sc ts vs).isSome
  | .Name .., v => !isComp v
  | .Tuple .., _ => true
  | _, _ => false
/-- a name of a list that this name alone holds -/
def linOf (cf : Cf) (N : List Str) (sc : Scope) : Expr → Option Nat
  | .Name x _ => (slotOf N sc x).bind fun i => if i ∈ cf.lin then some i else none
  | _ => none
/-- x, y = e, [] with y such a list -/
def setlOf (cf : Cf) (N : List Str) (sc : Scope) : Expr → Expr → Option (Nat × Nat × Expr)
  | .Tuple [.Name x px, .Name y py] _ _, .Tuple [a, .List [] pl] _ _ => (ixOf x N).bind fun i => (ixOf y N).bind fun j =>
    if (decide (j ∈ cf.lin) && !isStar a && decide (x ≠ y) && sc.names.lookup x == some .local && sc.names.lookup y == some .local && swP sc [.Name x px, .Name y py] [a, .List [] pl] == some (some [x, y])) = true then some (i, j, a) else none
  | _, _ => none
/-- x, y, z = e, [], [] with y and z such lists -/
def setl2Of (cf : Cf) (N : List Str) (sc : Scope) : Expr → Expr → Option (Nat × Nat × Nat × Expr)
  | .Tuple [.Name x px, .Name y py, .Name z pz] _ _, .Tuple [a, .List [] pl, .List [] pl2] _ _ => (ixOf x N).bind fun i => (ixOf y N).bind fun j => (ixOf z N).bind fun l =>
    if (decide (j ∈ cf.lin) && decide (l ∈ cf.lin) && !isStar a && decide (x ≠ y) && decide (x ≠ z) && decide (y ≠ z) && sc.names.lookup x == some .local && sc.names.lookup y == some .local && sc.names.lookup z == some .local && swP sc [.Name x px, .Name y py, .Name z pz] [a, .List [] pl, .List [] pl2] == some (some [x, y, z])) = true then some (i, j, l, a) else none
  | _, _ => none
theorem setl2Of_inv {cf : Cf} {N : List Str} {sc : Scope} {tg v a : Expr} {i j l : Nat} (h : setl2Of cf N sc tg v = some (i, j, l, a)) : ∃ x px y py z pz k p pl pl2 k2 p2, tg = .Tuple [.Name x px, .Name y py, .Name z pz] k p ∧ v = .Tuple [a, .List [] pl, .List [] pl2] k2 p2 ∧ ixOf x N = some i ∧ ixOf y N = some j ∧ ixOf z N = some l ∧ isStar a = false ∧ x ≠ y ∧ x ≠ z ∧ y ≠ z ∧ sc.names.lookup x = some .local ∧ sc.names.lookup y = some .local ∧ sc.names.lookup z = some .local ∧ swP sc [.Name x px, .Name y py, .Name z pz] [a, .List [] pl, .List [] pl2] = some (some [x, y, z]) := by
  unfold setl2Of at h
  split at h
  · simp only [Option.bind_eq_some_iff] at h
    obtain ⟨i', h1, j', h2, l', h3, h4⟩ := h
    split at h4
    · rename_i hq
      cases h4
      simp only [Bool.and_eq_true, decide_eq_true_eq, Bool.not_eq_true', beq_iff_eq] at hq
      obtain ⟨⟨⟨⟨⟨⟨⟨⟨⟨_, _⟩, q2⟩, q3⟩, q4⟩, q5⟩, q6⟩, q7⟩, q8⟩, q9⟩ := hq
      exact ⟨_, _, _, _, _, _, _, _, _, _, _, _, rfl, rfl, h1, h2, h3, q2, q3, q4, q5, q6, q7, q8, q9⟩
    · cases h4
  · cases h
theorem linOf_inv {cf : Cf} {N : List Str} {sc : Scope} {e : Expr} {m : Nat} (h : linOf cf N sc e = some m) : ∃ x p, e = .Name x p ∧ slotOf N sc x = some m := by
  unfold linOf at h
  split at h
  · simp only [Option.bind_eq_some_iff] at h
    obtain ⟨i, h1, h2⟩ := h
    split at h2
    · cases h2; exact ⟨_, _, rfl, h1⟩
    · cases h2
  · cases h
theorem setlOf_inv {cf : Cf} {N : List Str} {sc : Scope} {tg v a : Expr} {i j : Nat} (h : setlOf cf N sc tg v = some (i, j, a)) : ∃ x px y py k p pl k2 p2, tg = .Tuple [.Name x px, .Name y py] k p ∧ v = .Tuple [a, .List [] pl] k2 p2 ∧ ixOf x N = some i ∧ ixOf y N = some j ∧ isStar a = false ∧ x ≠ y ∧ sc.names.lookup x = some .local ∧ sc.names.lookup y = some .local ∧ swP sc [.Name x px, .Name y py] [a, .List [] pl] = some (some [x, y]) := by
  unfold setlOf at h
  split at h
  · simp only [Option.bind_eq_some_iff] at h
    obtain ⟨i', h1, j', h2, h3⟩ := h
    split at h3
    · rename_i hq
      cases h3
      simp only [Bool.and_eq_true, decide_eq_true_eq, Bool.not_eq_true', beq_iff_eq] at hq
      obtain ⟨⟨⟨⟨⟨_, q2⟩, q3⟩, q4⟩, q5⟩, q6⟩ := hq
      exact ⟨_, _, _, _, _, _, _, _, _, rfl, rfl, h1, h2, q2, q3, q4, q5, q6⟩
    · cases h3
  · cases h
def fuelW : Nat := 10 ^ 40
def isAdd : E → Bool
  | .op .add _ _ => true
  | _ => false
def cS (cf : Cf) (N : List Str) : Nat → Scope → Stmt → Option St
  | 0, _, _ => none
  | n + 1, sc, st => match st with
    | .Pass _ => some .pass
    | .Break _ => some .brk
    | .Continue _ => some .cont
    | .Expr (.Constant (.str _) _ _) _ => some .pass
    | .Expr (.Call (.Attribute (.Name x _) m p2) [e] [] p3) _ => if decide (m = "append") = true ∧ (p2.endLine == p3.line) = true then (slotOf N sc x).bind fun i => if i ∈ cf.lin then (cE cf N n sc e).map fun c => .app i c else none else none
    | .Expr e _ => if isComp e = true then none else (cE cf N n sc e).map .expr
    | .Return (some e) _ => (cE cf N n sc e).map .ret
    | .Return none _ => some .retn
    | .If c a b _ => if isIf c = true then none else (cE cf N n sc c).bind fun cc => (cSsF cf (cS cf N n sc) a).bind fun ca => (cSsF cf (cS cf N n sc) b).map fun cb => .ite cc ca cb
    | .For tg it body [] _ => (cTg N sc tg).bind fun ct => (cIt (cE cf N n sc) sc cf tg it).bind fun ci => (cSsF cf (cS cf N n sc) body).map fun cb => .for_ ct ci cb
    | .While c body [] _ => if isIf c = true then none else (cE cf N n sc c).bind fun cc => (cSsF cf (cS cf N n sc) body).map fun cb => .while_ fuelW cc cb
    | .Raise (some (.Call (.Name c _) [.Constant (.str _) _ _] [] _)) none _ => if glB sc c = true ∧ c ∈ cf.excs then some (.raise c) else none
    | .Raise (some (.Call (.Name c _) [e] [] _)) none _ => if glB sc c = true ∧ c ∈ cf.xcs then (cE cf N n sc e).map fun ce => .raisep c ce else none
    | .Assign [.Subscript o i _] v _ => if isSl i = true ∨ isComp v = true then none else (cE cf N n sc v).bind fun cv => (match linOf cf N sc o with
      | some m => (cE cf N n sc i).map fun ci => .lput m ci cv
      | none => (cE cf N n sc o).bind fun co => (cE cf N n sc i).map fun ci => .put co ci cv)
    | .Assign [.Name x px] (.List es pe) _ => if locB sc x = true then (ixOf x N).bind fun i => if i ∈ cf.lin then (cEsF (cE cf N n sc) es).map fun cs => .lin i cs else (cE cf N n sc (.List es pe)).map fun ce => .set (.name i) ce else none
    | .Assign [.Name x _] (.ListComp elt gs sc2 pc) _ => if locB sc x = true ∧ gs.length = 1 then (ixOf x N).bind fun i => (cE cf N n sc (.ListComp elt gs sc2 pc)).map fun ce => if i ∈ cf.lin then .linc i ce else .set (.name i) ce else none
    | .Assign [.Name x _] (.BinOp a .Add b pb) _ => if locB sc x = true then (ixOf x N).bind fun i => (cE cf N n sc (.BinOp a .Add b pb)).map fun ce => if i ∈ cf.lin ∧ isAdd ce = true then .linc i ce else .set (.name i) ce else none
    | .Assign [.Tuple [.Subscript o i p, .Subscript o2 i2 p2] _ _] (.Tuple [e, e2] _ _) _ => if isSl i = true ∨ isSl i2 = true ∨ swP sc [.Subscript o i p, .Subscript o2 i2 p2] [e, e2] ≠ some none then none else
      (cE cf N n sc e).bind fun ce => (cE cf N n sc e2).bind fun ce2 => (cE cf N n sc o).bind fun co => (cE cf N n sc i).bind fun ci => (cE cf N n sc o2).bind fun co2 => (cE cf N n sc i2).map fun ci2 => .put2 co ci co2 ci2 ce ce2
    | .Assign [tg] v _ => if swG sc tg v = true then (match setlOf cf N sc tg v with
      | some (i, j, a) => (cE cf N n sc a).map fun ca => .setl i j ca
      | none => (match setl2Of cf N sc tg v with
      | some (i, j, l, a) => (cE cf N n sc a).map fun ca => .setl2 i j l ca
      | none => (cTg N sc tg).bind fun ct => (cE cf N n sc v).map fun ce => .set ct ce)) else none
    | _ => none
/-- where a def's own statements stand -/
structure CxS (X : Cx) (cf : Cf) (N : List Str) (sc : Scope) (T : TW) (W : WX) (j k : Nat) : Prop where
  c : Cxt X cf N sc T W j k
  po : PassesOwn (model X.prog X.w) X.A X.env X.xe
  fn : ∀ y, X.fn y = true
  fk : sc.kind = .function
theorem CxS.loc {X : Cx} {cf : Cf} {N : List Str} {sc : Scope} {T : TW} {W : WX} {j k : Nat} (C : CxS X cf N sc T W j k) : LocOk X sc := fun y h => ⟨by rw [C.c.hsc]; exact loc_of h, .inl (C.fn y)⟩
theorem ss_stills {X : Cx} {T : TW} {W : WX} {rest : List Stmt} {cs : Ss} (h : PSs X rest (tSs X.K X.mg T W cs)) : ∀ is : List Nat, PSs X rest (tSs X.K X.mg T W (addStill is cs))
  | [] => h
  | _ :: is => ss_still (ss_stills h is)
theorem ss_ok {X : Cx} {cf : Cf} {T : TW} {W : WX} {f : Stmt → Option St} (ih : ∀ s c, f s = some c → PS X s (tS X.K X.mg T W c)) : ∀ {ss : List Stmt} {cs : Ss}, cSsF cf f ss = some cs → PSs X ss (tSs X.K X.mg T W cs)
  | [], cs, h => by
    simp only [cSsF, Option.some.injEq] at h
    subst h
    exact ss_nil
  | s :: r, cs, h => by
    unfold cSsF at h
    simp only [Option.bind_eq_some_iff, Option.map_eq_some_iff] at h
    obtain ⟨cr, h2, rfl⟩ := h
    refine ss_stills (ss_cons ?_ (ss_ok ih h2)) _
    cases h1 : f s with
    | none => exact ⟨fun pins sh σ H D I hh => by obtain ⟨_, _, _, _, _, _, hp⟩ := hh; exact hp.elim⟩
    | some c => exact ih _ _ h1
end Mi
set_option Elab.async false
set_option linter.all false
set_option maxRecDepth 100000
set_option maxHeartbeats 4000000
/-! My: what is read off a statement is right. -/
namespace Mi
open PySem PySem.Spec PyProof.Rows L2 RZ
section
variable {cf : Cf} {N : List Str} {T : TW} {j k : Nat}
theorem lc_inv {n : Nat} {sc sc2 : Scope} {elt : Expr} {gs : List Comprehension} {pos : Pos} {c : E} (hg : gs.length = 1) (h : cE cf N n sc (.ListComp elt gs sc2 pos) = some c) : ∃ m tg iter ifs ct ci cc ce, n = m + 1 ∧ gs = [⟨tg, iter, ifs, 0⟩] ∧ blkC N sc sc2 (ownOf N sc2) = true ∧ cTg N sc2 tg = some ct ∧
    ct.slots.all (fun i => decide (i ∈ (ownOf N sc2).map (·.2))) = true ∧ cIt (cE cf N m sc) sc cf tg iter = some ci ∧ cIf (cE cf.nolam N m (relS sc2 sc)) ifs = some cc ∧ cE cf.nolam N m (relS sc2 sc) elt = some ce ∧ c = .comp ce ct ci cc ((ownOf N sc2).map (·.2)) := by
  cases n with
  | zero => simp [cE] at h
  | succ n =>
    unfold cE at h
    split at h
    all_goals first
      | (rename_i e; cases e; done)
      | skip
    · rename_i e
      cases e
      split at h
      · rename_i hblk
        simp only [Option.bind_eq_some_iff] at h
        obtain ⟨ct, h1, h⟩ := h
        split at h
        · rename_i hsl
          simp only [Option.bind_eq_some_iff, Option.map_eq_some_iff] at h
          obtain ⟨ci, h2, cc, h3, ce, h4, rfl⟩ := h
          exact ⟨n, _, _, _, ct, ci, cc, ce, rfl, rfl, hblk, h1, hsl, h2, h3, h4, rfl⟩
        · cases h
      · cases h
    · rename_i e
      cases e
      simp at hg
    · rename_i e
      cases e
      simp at hg
    · cases h
theorem set_lc {n : Nat} {sc sc2 : Scope} {elt : Expr} {gs : List Comprehension} {cpos px pos : Pos} {x : Str} {i : Nat} {c : E} (hx : locB sc x = true) (hi : ixOf x N = some i) (hg1 : gs.length = 1) (h : cE cf N n sc (.ListComp elt gs sc2 cpos) = some c) (X : Cx) (W : WX) (C : CxS X cf N sc T W j k) :
    PS X (.Assign [.Name x px] (.ListComp elt gs sc2 cpos) pos) (tS X.K X.mg T W (.set (.name i) c)) := by
  by_cases hs : (X.env.blockKind == .function && X.env.kindOf x == some .local && px.line == cpos.line && !(sc2.names.any fun (n, k) => n == x && (k == .local || k == .cell))) = true
  · have hsw : swapsWith (.ListComp elt gs sc2 cpos) (some (.Name x px)) pos.line X.env = pure true := by
      show (pure _ : PySem.Sem Bool) = pure true
      exact congrArg pure hs
    obtain ⟨m, tg, iter, ifs, ct, ci, cc, ce, rfl, rfl, hblk, h1, hsl, h2, h3, h4, rfl⟩ := lc_inv hg1 h
    have ihE := fun e c h => (e_ok (T := T) m cf sc e c h X W j k C.c).1
    obtain ⟨p1, p2⟩ := it_ok C.c (fun _ _ h => cE_star h) ihE h2
    have hok : BlkOk X.N X.env.scope sc2 (ownOf N sc2) := by rw [C.c.hN, C.c.hsc]; exact blkOk_by hblk
    have hyl : X.env.scope.names.lookup x = some .local := by
      simp only [Bool.and_eq_true] at hs
      exact eq_of_beq hs.1.1.2
    refine s_setLc C.c.calm (by rw [C.c.hN]; exact C.c.nd) (by rw [C.c.hN]; exact ixOf_ok hi) hyl hsw p1 hok (fun s H a cl fp => ?_) (fun s H a cl fp => ?_) (fun s H a cl fp => ?_) p2 _ rfl (fun i hi => ?_)
    · exact tg_ok (X := X.blk s H sc2 (compEnvC sc2 cl a X.env) fp) C.c.hN C.c.nd C.c.calm locOk_blk h1
    · exact if_ok (X := X.blk s H sc2 (compEnvC sc2 cl a X.env) fp) (fun e c h => e_ok m _ _ e c h _ _ j k (C.c.blk sc2 s H cl a fp)) h3
    · exact (e_ok m _ _ _ _ h4 _ _ j k (C.c.blk sc2 s H cl a fp)).1
    · exact of_decide_eq_true (List.all_eq_true.mp hsl i hi)
  · have hsw : swapsWith (.ListComp elt gs sc2 cpos) (some (.Name x px)) pos.line X.env = pure false := by
      show (pure _ : PySem.Sem Bool) = pure false
      exact congrArg pure (Bool.eq_false_iff.mpr hs)
    exact s_set (e_ok n cf sc _ _ h X W j k C.c).1 (tg1 C.c.hN C.c.nd C.loc hx hi) hsw rfl rfl
theorem set_linc {n : Nat} {sc sc2 : Scope} {elt : Expr} {gs : List Comprehension} {cpos px pos : Pos} {x : Str} {i : Nat} {c : E} (hx : locB sc x = true) (hi : ixOf x N = some i) (hg1 : gs.length = 1) (h : cE cf N n sc (.ListComp elt gs sc2 cpos) = some c) (X : Cx) (W : WX) (C : CxS X cf N sc T W j k) :
    PS X (.Assign [.Name x px] (.ListComp elt gs sc2 cpos) pos) (tS X.K X.mg T W (.linc i c)) := by
  obtain ⟨m, tg, iter, ifs, ct, ci, cc, ce, rfl, rfl, hblk, h1, hsl, h2, h3, h4, rfl⟩ := lc_inv hg1 h
  have ihE := fun e c h => (e_ok (T := T) m cf sc e c h X W j k C.c).1
  obtain ⟨p1, p2⟩ := it_ok C.c (fun _ _ h => cE_star h) ihE h2
  have hok : BlkOk X.N X.env.scope sc2 (ownOf N sc2) := by rw [C.c.hN, C.c.hsc]; exact blkOk_by hblk
  have q1 := fun (s : Shared) (H : Hp) (a : Addr) (cl : List (Str × Addr)) (fp : List Addr) => tg_ok (T := T) (X := X.blk s H sc2 (compEnvC sc2 cl a X.env) fp) C.c.hN C.c.nd C.c.calm locOk_blk h1
  have q2 := fun (s : Shared) (H : Hp) (a : Addr) (cl : List (Str × Addr)) (fp : List Addr) => if_ok (X := X.blk s H sc2 (compEnvC sc2 cl a X.env) fp) (fun e c h => e_ok m _ _ e c h _ _ j k (C.c.blk sc2 s H cl a fp)) h3
  have q3 := fun (s : Shared) (H : Hp) (a : Addr) (cl : List (Str × Addr)) (fp : List Addr) => (e_ok m _ _ _ _ h4 _ _ j k (C.c.blk sc2 s H cl a fp)).1
  have q4 : ∀ i ∈ ct.slots, i ∈ (ownOf N sc2).map (·.2) := fun i hi => of_decide_eq_true (List.all_eq_true.mp hsl i hi)
  by_cases hs : (X.env.blockKind == .function && X.env.kindOf x == some .local && px.line == cpos.line && !(sc2.names.any fun (n, k) => n == x && (k == .local || k == .cell))) = true
  · have hsw : swapsWith (.ListComp elt [⟨tg, iter, ifs, 0⟩] sc2 cpos) (some (.Name x px)) pos.line X.env = pure true := by
      show (pure _ : PySem.Sem Bool) = pure true
      exact congrArg pure hs
    have hyl : X.env.scope.names.lookup x = some .local := by
      simp only [Bool.and_eq_true] at hs
      exact eq_of_beq hs.1.1.2
    exact s_lincA C.c.calm (by rw [C.c.hN]; exact C.c.nd) (by rw [C.c.hN]; exact ixOf_ok hi) hyl hsw p1 hok q1 q2 q3 p2 _ rfl q4
  · have hsw : swapsWith (.ListComp elt [⟨tg, iter, ifs, 0⟩] sc2 cpos) (some (.Name x px)) pos.line X.env = pure false := by
      show (pure _ : PySem.Sem Bool) = pure false
      exact congrArg pure (Bool.eq_false_iff.mpr hs)
    exact s_lincB C.c.calm (by rw [C.c.hN]; exact C.c.nd) (by rw [C.c.hN]; exact ixOf_ok hi) (C.loc x hx).1 (C.loc x hx).2 hsw p1 hok q1 q2 q3 p2 _ rfl q4
def swF (sc : Scope) (ln : Nat) : Expr → Option Str
  | .Name id pos => if (sc.names.lookup id == some .local && pos.line == ln) = true then some id else none
  | _ => none
theorem swN_eq {sc : Scope} {ts : List Expr} : swN sc ts = ts.filterMap (swF sc ((ts.head?.map (·.pos.line)).getD 0)) := by
  unfold swN
  congr 1
theorem fm_cons {f : Expr → Option Str} {t : Expr} {ts : List Expr} (h : ((t :: ts).filterMap f).length = ts.length + 1) : ∃ x, f t = some x ∧ (ts.filterMap f).length = ts.length ∧ (t :: ts).filterMap f = x :: ts.filterMap f := by
  cases hq : f t with
  | none =>
    rw [List.filterMap_cons_none hq] at h
    have := List.length_filterMap_le f ts
    omega
  | some x =>
    rw [List.filterMap_cons_some hq] at h
    exact ⟨x, rfl, by simpa using h, List.filterMap_cons_some hq⟩
theorem swF_inv {sc : Scope} {ln : Nat} {t : Expr} {x : Str} (h : swF sc ln t = some x) : ∃ p, t = .Name x p ∧ sc.names.lookup x = some .local := by
  unfold swF at h
  split at h
  · split at h
    · rename_i e
      cases h
      simp only [Bool.and_eq_true] at e
      exact ⟨_, rfl, eq_of_beq e.1⟩
    · cases h
  · cases h
theorem swP_inv {sc : Scope} {ts vs : List Expr} {ns : List Str} (h : swP sc ts vs = some (some ns)) : ns = swN sc ts ∧ vs.length = ts.length ∧ (ts.length = 2 ∨ ts.length = 3) ∧ (swN sc ts).length = ts.length ∧ (swN sc ts).eraseDups.length = (swN sc ts).length := by
  unfold swP at h
  split at h
  · cases h
  · rename_i h1
    split at h
    · cases h
    · split at h
      · cases h
      · rename_i h3
        split at h
        · cases h
        · split at h
          · cases h
          · simp only [Option.some.injEq] at h
            simp at h1 h3
            exact ⟨h.symm, h1.2, by omega, h3.1, h3.2⟩
theorem cE_tup {n : Nat} {sc : Scope} {vs : List Expr} {k : Nat} {p : Pos} {c : E} (h : cE cf N n sc (.Tuple vs k p) = some c) : ∃ m cs, n = m + 1 ∧ cEsF (cE cf N m sc) vs = some cs ∧ c = .tup cs := by
  cases n with
  | zero => simp [cE] at h
  | succ n =>
    unfold cE at h
    simp only [Option.map_eq_some_iff] at h
    obtain ⟨cs, h1, rfl⟩ := h
    exact ⟨n, cs, rfl, h1, rfl⟩
theorem ix_ne {x y : Str} {i j : Nat} (hi : ixOf x N = some i) (hj : ixOf y N = some j) (h : x ≠ y) : i ≠ j := fun e => by
  subst e
  have a := ixOf_ok hi
  have b := ixOf_ok hj
  rw [a] at b
  cases b
  exact h rfl
theorem dup2 {x y : Str} (h : [x, y].eraseDups.length = 2) : x ≠ y := fun e => by
  subst e
  simp [List.eraseDups_cons] at h
theorem dup3 {x y z : Str} (h : [x, y, z].eraseDups.length = 3) : x ≠ y ∧ x ≠ z ∧ y ≠ z := by
  refine ⟨fun e => ?_, fun e => ?_, fun e => ?_⟩
  · subst e
    by_cases q : z = x
    · subst q; simp [List.eraseDups_cons] at h
    · simp [List.eraseDups_cons, q] at h
  · subst e
    by_cases q : y = x
    · subst q; simp [List.eraseDups_cons] at h
    · simp [List.eraseDups_cons, q] at h
  · subst e
    by_cases q : y = x
    · subst q; simp [List.eraseDups_cons] at h
    · simp [List.eraseDups_cons, q] at h
theorem assign_ok {n : Nat} {sc : Scope} {tg v : Expr} {pos : Pos} {ct : Tg} {ce : E} (hg : swG sc tg v = true) (ht : cTg N sc tg = some ct) (he : cE cf N n sc v = some ce) (X : Cx) (W : WX) (C : CxS X cf N sc T W j k) : PS X (.Assign [tg] v pos) (tS X.K X.mg T W (.set ct ce)) := by
  have hv := (e_ok n cf sc v ce he X W j k C.c).1
  have hp := tg_ok (T := T) C.c.hN C.c.nd C.c.calm C.loc ht
  cases tg with
  | Name x px =>
    unfold cTg at ht
    simp only at ht
    split at ht
    · rename_i hx
      simp only [Option.map_eq_some_iff] at ht
      obtain ⟨i, hi, rfl⟩ := ht
      cases v with
      | ListComp elt gs sc2 cpos => cases hg
      | SetComp => cases n <;> simp [cE] at he
      | DictComp => cases n <;> simp [cE] at he
      | _ => exact s_set hv hp rfl rfl rfl
    · cases ht
  | Tuple ts kt pt =>
    cases v with
    | Tuple vs k2 pt2 =>
      have hg : (swP sc ts vs).isSome = true := hg
      cases hr : swP sc ts vs with
      | none => rw [hr] at hg; cases hg
      | some r =>
        have hw := swP_ok (k := kt) (k2 := k2) (p := pt) (p2 := pt2) C.c.hsc C.fk hr
        cases r with
        | none => exact s_set hv hp rfl hw rfl
        | some ns =>
          obtain ⟨e1, e2, e3, e4, e5⟩ := swP_inv hr
          obtain ⟨m, cs, rfl, he1, rfl⟩ := cE_tup he
          have pa := pa_ok (X := X) (T := T) (W := W) (fun _ _ h => cE_star h) (fun e c h => (e_ok m cf sc e c h X W j k C.c).1) he1
          rw [swN_eq] at e4 e5 e1
          generalize (ts.head?.map (·.pos.line)).getD 0 = ln at e4 e5 e1
          match ts, vs, e2, e3, hg, hr, hw, ht, hp, hv, e4, e5, e1, pa with
          | [t1, t2], [v1, v2], _, _, hg, hr, hw, ht, hp, hv, e4, e5, e1, pa =>
            obtain ⟨x, a1, a2, a3⟩ := fm_cons e4
            obtain ⟨y, b1, b2, b3⟩ := fm_cons a2
            rw [a3, b3, List.filterMap_nil] at e1 e5
            subst e1
            obtain ⟨px, rfl, lx⟩ := swF_inv a1
            obtain ⟨py, rfl, ly⟩ := swF_inv b1
            have hxy := dup2 (e5.trans rfl)
            unfold cTg at ht
            simp only at ht
            split at ht
            · simp only [Option.bind_eq_some_iff, Option.map_eq_some_iff] at ht
              obtain ⟨i, hi, j, hj, rfl⟩ := ht
              exact s_par C.c.calm (by rw [C.c.hN]; exact C.c.nd) (by rw [C.c.hN]; exact ixOf_ok hi) (by rw [C.c.hN]; exact ixOf_ok hj) (ix_ne hi hj hxy) (by rw [C.c.hsc]; exact lx) (by rw [C.c.hsc]; exact ly) pa hw rfl
            · cases ht
          | [t1, t2, t3], [v1, v2, v3], _, _, hg, hr, hw, ht, hp, hv, e4, e5, e1, pa =>
            obtain ⟨x, a1, a2, a3⟩ := fm_cons e4
            obtain ⟨y, b1, b2, b3⟩ := fm_cons a2
            obtain ⟨z, c1, c2, c3⟩ := fm_cons b2
            rw [a3, b3, c3, List.filterMap_nil] at e1 e5
            subst e1
            obtain ⟨px, rfl, lx⟩ := swF_inv a1
            obtain ⟨py, rfl, ly⟩ := swF_inv b1
            obtain ⟨pz, rfl, lz⟩ := swF_inv c1
            obtain ⟨hxy, hxz, hyz⟩ := dup3 (e5.trans rfl)
            unfold cTg at ht
            simp only at ht
            split at ht
            · simp only [Option.bind_eq_some_iff, Option.map_eq_some_iff] at ht
              obtain ⟨i, hi, j, hj, l, hl, rfl⟩ := ht
              exact s_par3 C.c.calm (by rw [C.c.hN]; exact C.c.nd) (by rw [C.c.hN]; exact ixOf_ok hi) (by rw [C.c.hN]; exact ixOf_ok hj) (by rw [C.c.hN]; exact ixOf_ok hl) (ix_ne hi hj hxy) (ix_ne hi hl hxz) (ix_ne hj hl hyz) (by rw [C.c.hsc]; exact lx) (by rw [C.c.hsc]; exact ly) (by rw [C.c.hsc]; exact lz) pa hw rfl
            · cases ht
          | [], _, _, e3, _, _, _, _, _, _, _, _, _, _ => simp at e3
          | [_], _, _, e3, _, _, _, _, _, _, _, _, _, _ => simp at e3
          | _ :: _ :: _ :: _ :: _, _, _, e3, _, _, _, _, _, _, _, _, _, _ => simp at e3
          | [_, _], [], e2, _, _, _, _, _, _, _, _, _, _, _ => simp at e2
          | [_, _], [_], e2, _, _, _, _, _, _, _, _, _, _, _ => simp at e2
          | [_, _], _ :: _ :: _ :: _, e2, _, _, _, _, _, _, _, _, _, _, _ => simp at e2
          | [_, _, _], [], e2, _, _, _, _, _, _, _, _, _, _, _ => simp at e2
          | [_, _, _], [_], e2, _, _, _, _, _, _, _, _, _, _, _ => simp at e2
          | [_, _, _], [_, _], e2, _, _, _, _, _, _, _, _, _, _, _ => simp at e2
          | [_, _, _], _ :: _ :: _ :: _ :: _, e2, _, _, _, _, _, _, _, _, _, _, _ => simp at e2
    | _ => exact s_set hv hp rfl rfl rfl
  | _ => simp [cTg] at ht
end
end Mi
set_option Elab.async false
set_option linter.all false
set_option maxRecDepth 100000
set_option maxHeartbeats 4000000
/-! Na: what is read off a statement is right; a def. -/
namespace Mi
open PySem PySem.Spec PyProof.Rows L2 RZ
section
variable {cf : Cf} {N : List Str} {T : TW} {j k : Nat}
theorem sw_not {e : Expr} {l : Nat} {env : Env} (h : isComp e = false) : swapsWith e none l env = pure false := by
  cases e <;> first | rfl | (simp [isComp] at h)
theorem isAdd_inv {e : E} (h : isAdd e = true) : ∃ a b, e = .op .add a b := by
  cases e with
  | op o a b => cases o <;> first | exact ⟨a, b, rfl⟩ | cases h
  | _ => cases h
theorem add_inv {cf : Cf} {N : List Str} {n : Nat} {sc : Scope} {a b : Expr} {p : Pos} {ca cb : E} (h : cE cf N n sc (.BinOp a .Add b p) = some (.op .add ca cb)) : ∃ m, n = m + 1 ∧ cE cf N m sc a = some ca ∧ cE cf N m sc b = some cb := by
  cases n with
  | zero => cases h
  | succ m =>
    refine ⟨m, rfl, ?_⟩
    unfold cE at h
    dsimp only at h
    split at h
    · simp only [Option.bind_eq_some_iff, Option.map_eq_some_iff] at h
      obtain ⟨_, _, _, _, h⟩ := h
      cases h
    · simp only [Option.bind_eq_some_iff, Option.map_eq_some_iff] at h
      obtain ⟨o, _, c1, h1, c2, h2, h⟩ := h
      cases h
      exact ⟨h1, h2⟩
theorem st_ok : ∀ (n : Nat) (sc : Scope) (st : Stmt) (c : St), cS cf N n sc st = some c → ∀ (X : Cx) (W : WX), CxS X cf N sc T W j k → PS X st (tS X.K X.mg T W c)
  | 0, _, _, _, h, _, _, _ => by simp [cS] at h
  | n + 1, sc, st, c, h, X, W, C => by
    have ihE := fun e c h => (e_ok (T := T) n cf sc e c h X W j k C.c)
    have ihS := fun s c h => st_ok n sc s c h X W C
    unfold cS at h
    split at h
    · cases h; exact s_pass
    · cases h; exact s_brk
    · cases h; exact s_cont
    · cases h; exact s_doc
    · split at h
      · rename_i x _ m p2 e p3 _ hg
        obtain ⟨hg1, hg2⟩ := hg
        have hg1 := of_decide_eq_true hg1
        subst hg1
        simp only [Option.bind_eq_some_iff] at h
        obtain ⟨i, hi, h⟩ := h
        split at h
        · simp only [Option.map_eq_some_iff] at h
          obtain ⟨ce, h1, rfl⟩ := h
          obtain ⟨v1, v2, v3, v4⟩ := slot_of hi
          exact s_app (by rw [C.c.hN]; exact v2) (by rw [C.c.hsc]; exact v1) v3 v4 (ihE _ _ h1).1 (star1 (cE_star h1)) hg2
        · cases h
      · cases h
    · split at h
      · cases h
      · rename_i hq
        simp only [Option.map_eq_some_iff] at h
        obtain ⟨ce, h1, rfl⟩ := h
        exact s_expr (ihE _ _ h1).1 (sw_not (by simpa using hq))
    · simp only [Option.map_eq_some_iff] at h
      obtain ⟨ce, h1, rfl⟩ := h
      exact s_ret (ihE _ _ h1).1
    · cases h; exact s_retn
    · split at h
      · cases h
      · rename_i hq
        simp only [Option.bind_eq_some_iff, Option.map_eq_some_iff] at h
        obtain ⟨cc, h1, ca, h2, cb, h3, rfl⟩ := h
        exact s_if ((ihE _ _ h1).2 (by simpa using hq)) (ss_ok ihS h2) (ss_ok ihS h3)
    · simp only [Option.bind_eq_some_iff, Option.map_eq_some_iff] at h
      obtain ⟨ct, h1, ci, h2, cb, h3, rfl⟩ := h
      obtain ⟨p1, p2⟩ := it_ok C.c (fun _ _ h => cE_star h) (fun e c h => (ihE e c h).1) h2
      exact s_for C.po C.c.calm p1 (tg_ok C.c.hN C.c.nd C.c.calm C.loc h1) (ss_ok ihS h3) p2
    · split at h
      · cases h
      · rename_i hq
        simp only [Option.bind_eq_some_iff, Option.map_eq_some_iff] at h
        obtain ⟨cc, h1, cb, h3, rfl⟩ := h
        exact s_while C.po ((ihE _ _ h1).2 (by simpa using hq)) (ss_ok ihS h3)
    · split at h
      · rename_i hg
        cases h
        obtain ⟨Cx, a1, a2, a3, a4⟩ := C.c.excs _ hg.2
        exact s_raise C.c.calm C.c.tk a1 (L2N.pmk_own PySem.F.excBase_ValueError a2 a1 a3 a4 (gl_X C.c hg.1) (gl_of hg.1).2.1)
      · cases h
    · split at h
      · rename_i hg
        simp only [Option.map_eq_some_iff] at h
        obtain ⟨ce, h1, rfl⟩ := h
        obtain ⟨Cc, XD⟩ := C.c.xcs _ hg.2
        have h2 : 2 ≤ k := C.c.xk fun z => by rw [z] at hg; cases hg.2
        exact s_raisep C.c.calm C.c.tk XD (C.c.room.mono h2) (gl_X C.c hg.1) (gl_of hg.1).2.1 (ihE _ _ h1).1 (star1 (cE_star h1))
      · cases h
    · split at h
      · cases h
      · rename_i o i p v _ hq
        simp only [not_or, Bool.not_eq_true] at hq
        simp only [Option.bind_eq_some_iff] at h
        obtain ⟨cv, h1, h⟩ := h
        split at h
        · rename_i m hm
          simp only [Option.map_eq_some_iff] at h
          obtain ⟨ci, h3, rfl⟩ := h
          obtain ⟨x, px, rfl, hsl⟩ := linOf_inv hm
          obtain ⟨v1, v2, v3, v4⟩ := slot_of hsl
          refine s_lput (ihE _ _ h1).1 (by rw [C.c.hN]; exact v2) (by rw [C.c.hsc]; exact v1) v3 v4 (ihE _ _ h3).1 ?_ rfl rfl (fun v => ?_)
          · cases v <;> first | rfl | (simp [isComp] at hq)
          · cases i <;> first | rfl | (simp [isSl] at hq)
        simp only [Option.bind_eq_some_iff, Option.map_eq_some_iff] at h
        obtain ⟨co, h2, ci, h3, rfl⟩ := h
        refine s_put (ihE _ _ h1).1 (ihE _ _ h2).1 (ihE _ _ h3).1 ?_ rfl rfl (fun v => ?_) C.c.tw (by have := C.c.room.un; omega)
        · cases v <;> first | rfl | (simp [isComp] at hq)
        · cases i <;> first | rfl | (simp [isSl] at hq)
    · split at h
      · rename_i x px es pe _ hx
        simp only [Option.bind_eq_some_iff] at h
        obtain ⟨i, hi, h⟩ := h
        split at h
        · simp only [Option.map_eq_some_iff] at h
          obtain ⟨cs, h1, rfl⟩ := h
          exact s_lin (by rw [C.c.hN]; exact C.c.nd) (by rw [C.c.hN]; exact ixOf_ok hi) (C.loc x hx).1 (C.loc x hx).2 (pa_ok (fun _ _ h => cE_star h) (fun e c h => (ihE e c h).1) h1)
        · simp only [Option.map_eq_some_iff] at h
          obtain ⟨ce, h1, rfl⟩ := h
          exact s_set (ihE _ _ h1).1 (tg1 C.c.hN C.c.nd C.loc hx hi) rfl rfl rfl
      · cases h
    · split at h
      · rename_i hx
        simp only [Option.bind_eq_some_iff, Option.map_eq_some_iff] at h
        obtain ⟨i, hi, ce, h1, rfl⟩ := h
        split
        · exact set_linc hx.1 hi hx.2 h1 X W C
        · exact set_lc hx.1 hi hx.2 h1 X W C
      · cases h
    · split at h
      · rename_i hx
        simp only [Option.bind_eq_some_iff, Option.map_eq_some_iff] at h
        obtain ⟨i, hi, ce, h1, rfl⟩ := h
        split
        · rename_i hq
          obtain ⟨ca, cb, rfl⟩ := isAdd_inv hq.2
          obtain ⟨m, rfl, h2, h3⟩ := add_inv h1
          exact s_lincOp (by rw [C.c.hN]; exact C.c.nd) (by rw [C.c.hN]; exact ixOf_ok hi) (C.loc _ hx).1 (C.loc _ hx).2 rfl (e_ok (T := T) m cf sc _ _ h2 X W j k C.c).1 (e_ok (T := T) m cf sc _ _ h3 X W j k C.c).1
        · exact s_set (ihE _ _ h1).1 (tg1 C.c.hN C.c.nd C.loc hx hi) rfl rfl rfl
      · cases h
    · split at h
      · cases h
      · rename_i hq
        simp only [not_or, Bool.not_eq_true, Decidable.not_not] at hq
        obtain ⟨q1, q2, q3⟩ := hq
        simp only [Option.bind_eq_some_iff, Option.map_eq_some_iff] at h
        obtain ⟨ce, h1, ce2, h2, co, h3, ci, h4, co2, h5, ci2, h6, rfl⟩ := h
        rename_i o i p o2 i2 p2 _ _ _ _ _ _ _
        refine s_put2 C.c.calm (ihE _ _ h1).1 (ihE _ _ h2).1 (ihE _ _ h3).1 (ihE _ _ h4).1 (ihE _ _ h5).1 (ihE _ _ h6).1 (star1 (cE_star h1)) (star1 (cE_star h2)) rfl (swP_ok C.c.hsc C.fk q3) rfl (fun v => ?_) (fun v => ?_) rfl rfl rfl rfl C.c.tw (by have := C.c.room.un; omega)
        · cases i <;> first | rfl | (simp [isSl] at q1)
        · cases i2 <;> first | rfl | (simp [isSl] at q2)
    · split at h
      · rename_i hq
        split at h
        · rename_i i j a hm
          simp only [Option.map_eq_some_iff] at h
          obtain ⟨ca, h1, rfl⟩ := h
          obtain ⟨x, px, y, py, kt, pt, pl, k2, p2, rfl, rfl, h2, h3, h4, h5, h6, h7, h8⟩ := setlOf_inv hm
          exact s_setl C.c.calm (by rw [C.c.hN]; exact C.c.nd) (by rw [C.c.hN]; exact ixOf_ok h2) (by rw [C.c.hN]; exact ixOf_ok h3) (ix_ne h2 h3 h5) (by rw [C.c.hsc]; exact h6) (by rw [C.c.hsc]; exact h7) (ihE _ _ h1).1 (star1 h4) (swP_ok C.c.hsc C.fk h8) rfl
        split at h
        · rename_i i j l a hm
          simp only [Option.map_eq_some_iff] at h
          obtain ⟨ca, h1, rfl⟩ := h
          obtain ⟨x, px, y, py, z, pz, kt, pt, pl, pl2, k2, p2, rfl, rfl, h2, h3, h31, h4, h5, h51, h52, h6, h7, h71, h8⟩ := setl2Of_inv hm
          exact s_setl2 C.c.calm (by rw [C.c.hN]; exact C.c.nd) (by rw [C.c.hN]; exact ixOf_ok h2) (by rw [C.c.hN]; exact ixOf_ok h3) (by rw [C.c.hN]; exact ixOf_ok h31) (ix_ne h2 h3 h5) (ix_ne h2 h31 h51) (ix_ne h3 h31 h52) (by rw [C.c.hsc]; exact h6) (by rw [C.c.hsc]; exact h7) (by rw [C.c.hsc]; exact h71) (ihE _ _ h1).1 (star1 h4) (swP_ok C.c.hsc C.fk h8) rfl
        simp only [Option.bind_eq_some_iff, Option.map_eq_some_iff] at h
        obtain ⟨ct, h1, ce, h2, rfl⟩ := h
        exact assign_ok hq h1 h2 X W C
      · cases h
    · cases h
/-- what the surroundings of a def hold -/
structure Wd (P : Program) (w : World) (K : PySem.W.Frag) (mg : Str → Option Value) (base : Heap) (T : TW) (cf : Cf) (j : Nat) : Prop where
  fns : ∀ x a F, cf.fns.lookup x = some (a, F) → ∃ f fd ps, mg x = some (.ref f) ∧ PySem.W.keepIn K (.ref f) = true ∧ Binds K fd ps [] ∧ FnOk P w K mg base (L2N.CX P w) j f fd ps (spF K mg T a F)
  cons : ∀ x d, cf.cons.lookup x = some d → ∃ v u, mg x = some u ∧ RelV v u ∧ ∀ ι Z H, Rp K mg ι Z H d v
  bis : ∀ x ∈ biNames, mg x = none
  excs : ∀ c ∈ cf.excs, ∃ C, mg c = some (.ref C) ∧ PySem.W.excIn K C veB "ValueError.__new__" = true ∧ PySem.W.keepIn K (.ref C) = true ∧ ∀ X : Cx, X.prog = P → X.w = w → X.K = K → X.mg = mg → Raises X (.ref C)
  err : ∀ x nms, cf.err = some (x, nms) → ∃ g pg bg sg fd L cs CE, Mh.ErrD K mg x pg bg sg g fd L cs CE ∧ ∀ c lbl, nms.lookup c = some lbl → ∀ C, mg c = some (.ref C) → Mh.LblE K mg L cs CE C lbl
  xcs : ∀ c ∈ cf.xcs, ∃ C, XcD P w K mg base 1 c C
  tw : T.w = w
/-- the code object of a def that makes lambdas -/
def LamD (base : Heap) (mg : Str → Option Value) (T : TW) (code : Value) (qual : Str) : Prop :=
  ∃ c P, code = .ref c ∧ LamX.TabB base mg c P ∧ (P, qual ++ ".<locals>." ++ "<lambda>") ∈ T.l ∧ ∀ p ∈ T.l, p.1 = P → p.2 = qual ++ ".<locals>." ++ "<lambda>"
theorem def_ok {P : Program} {w : World} {K : PySem.W.Frag} {mg : Str → Option Value} {base : Heap} {cf : Cf} {x qual : Str} {params : Arguments} {body : List Stmt} {scope : Scope} {f : Addr} {fd : FuncData} {ps : List Str} {j k n : Nat} {cb : Ss} {F : Sem}
    (wd : Wd P w K mg base T cf j) (FD : FunD K x qual params body scope [] [] f fd) (S : FnScope N ps scope) (hk : scope.kind = .function) (nd : N.Nodup) (hc : cSsF cf (cS cf N n scope) body = some cb) (hF : F = run ps.length N.length cb) (hjk : j ≤ k) (hk2 : 2 ≤ k) (hl : cf.lam = true → j + 2 ≤ k ∧ LamD base mg T fd.code qual) :
    FnOk P w K mg base (L2N.CX P w) (k + 1) f fd ps (spF K mg T ps.length F) :=
  ok_run FD S hF fun X W e1 e2 e3 e4 e5 e6 e7 e8 hr tk po hfn hcd hq => by
    subst e1 e2 e3 e4 e5
    exact ss_ok (fun s c h => st_ok n scope s c h X W ⟨⟨e6, nd, e7, e8, hr, hjk, tk, wd.fns, wd.cons, wd.bis, fun c h => by
      obtain ⟨C, a1, a2, a3, a4⟩ := wd.excs c h
      exact ⟨C, a1, a2, a3, a4 X rfl rfl rfl rfl⟩, wd.err, fun z => by
      obtain ⟨a, c, P, b1, b2, b3, b4⟩ := hl z
      rw [hcd, hq]
      exact ⟨a, c, P, b1, b2, b3, b4⟩, wd.xcs, fun _ => hk2, wd.tw⟩, po, hfn, hk⟩) hc
end
end Mi
set_option Elab.async false
set_option linter.all false
set_option maxRecDepth 100000
set_option maxHeartbeats 4000000
/-! Hd: the head's facts for the small language; the law's end. -/
namespace Mi
open PySem PySem.Spec PyProof.Rows L2 RZ He
/-! ### constants -/
mutual
def valB (K : PySem.W.Frag) : D → Value → Bool
  | .non, u => relB .non u
  | .bl b, u => relB (.bl b) u
  | .int i, u => relB (.int i) u
  | .str x, u => relB (.str x) u
  | .ty n, u => relB (.ty n) u
  | .tup ds, .ref a => (match K.lookup a with
    | some ⟨.type c, _, .seq its _, _⟩ => decide (c = "tuple") && (decide (its.size ≤ sizeLine) && valsB K ds its.toList)
    | _ => false)
  | _, _ => false
def valsB (K : PySem.W.Frag) : List D → List Value → Bool
  | [], [] => true
  | d :: ds, u :: us => valB K d u && valsB K ds us
  | _, _ => false
end
mutual
theorem valB_ok {K : PySem.W.Frag} {mg : Str → Option Value} : ∀ {d : D} {u : Value}, valB K d u = true → ∃ v, RelV v u ∧ ∀ ι Z H, Rp K mg ι Z H d v
  | .non, u, h => ⟨.non, relB_ok h, fun _ _ _ => rfl⟩
  | .bl b, u, h => ⟨.bl b, relB_ok h, fun _ _ _ => rfl⟩
  | .int b, u, h => ⟨.int b, relB_ok h, fun _ _ _ => rfl⟩
  | .str b, u, h => ⟨.str b, relB_ok h, fun _ _ _ => rfl⟩
  | .ty b, u, h => ⟨.ty b, relB_ok h, fun _ _ _ => rfl⟩
  | .tup ds, .ref a, h => by
    unfold valB at h
    cases q : K.lookup a with
    | none => rw [q] at h; cases h
    | some o =>
      obtain ⟨oc, od, dt, osl⟩ := o
      rw [q] at h
      cases oc with
      | type c =>
        cases dt with
        | seq its n =>
          obtain ⟨h1, h2⟩ := ba (show (decide (c = "tuple") && (decide (its.size ≤ sizeLine) && valsB K ds its.toList)) = true from h)
          obtain ⟨h3, h4⟩ := ba h2
          obtain ⟨vs, r1, r2⟩ := valsB_ok (mg := mg) h4
          exact ⟨.ref a, rfl, fun ι Z H => ⟨a, vs, rfl, .inr ⟨_, its, n, q, congrArg Value.type (of_decide_eq_true h1), rfl, of_decide_eq_true h3, r1⟩, r2 ι Z H⟩⟩
        | _ => cases h
      | _ => cases dt <;> cases h
  | .tup _, .none, h => by cases h
  | .tup _, .bool _, h => by cases h
  | .tup _, .int _ _, h => by cases h
  | .tup _, .str _ _, h => by cases h
  | .tup _, .type _, h => by cases h
  | .tup _, .float _ _, h => by cases h
  | .tup _, .bytes _ _, h => by cases h
  | .tup _, .builtin _, h => by cases h
  | .tup _, .ellipsis, h => by cases h
  | .tup _, .notImplemented, h => by cases h
  | .lst _, u, h => by cases u <;> cases h
  | .obj _, u, h => by cases u <;> cases h
  | .scr _, u, h => by cases u <;> cases h
  | .glo _, u, h => by cases u <;> cases h
theorem valsB_ok {K : PySem.W.Frag} {mg : Str → Option Value} : ∀ {ds : List D} {us : List Value}, valsB K ds us = true → ∃ vs, Vals vs us ∧ ∀ ι Z H, Rps K mg ι Z H ds vs
  | [], [], _ => ⟨[], .nil, fun _ _ _ => rfl⟩
  | d :: ds, u :: us, h => by
    obtain ⟨h1, h2⟩ := ba (show (valB K d u && valsB K ds us) = true from h)
    obtain ⟨v, r1, r2⟩ := valB_ok (mg := mg) h1
    obtain ⟨vs, r3, r4⟩ := valsB_ok (mg := mg) h2
    exact ⟨v :: vs, .cons r1 r3, fun ι Z H => ⟨v, vs, rfl, r2 ι Z H, r4 ι Z H⟩⟩
  | [], _ :: _, h => by cases h
  | _ :: _, [], h => by cases h
end
def conB (K : PySem.W.Frag) (p : Str × D) : Bool := match PySem.W.nsIn K mainGlobals p.1 with
  | some (some u) => valB K p.2 u
  | _ => false
theorem conB_ok {K : PySem.W.Frag} {h : Heap} {mg : Str → Option Value} (X : K.In h) (G : h.Ns mainGlobals mg) {x : Str} {d : D} (c : conB K (x, d) = true) : ∃ v u, mg x = some u ∧ RelV v u ∧ ∀ ι Z H, Rp K mg ι Z H d v := by
  unfold conB at c
  cases q : PySem.W.nsIn K mainGlobals x with
  | none => simp only [q] at c; cases c
  | some r =>
    simp only [q] at c
    cases r with
    | none => cases c
    | some u =>
      obtain ⟨v, r1, r2⟩ := valB_ok (mg := mg) c
      exact ⟨v, u, PySem.W.mg_of X G q, r1, r2⟩
/-! ### names of exceptions -/
def excCB (K : PySem.W.Frag) (D : Addr) : Bool :=
  eqO (PySem.W.findIn K (.ref D) "__getattribute__") (some (some (.builtin "BaseException.__getattribute__"))) && (eqO (PySem.W.findIn K (.ref D) "__getattr__") (some none) && (decide (PySem.W.subIn K (.ref D) (.type "BaseException") = some true) && (PySem.W.hasDictIn K D &&
    (eqO (PySem.W.findIn K (.ref D) "__class__") (some (some (.builtin "object.__class__"))) && (eqO (PySem.W.specialIn K (.builtin "object.__class__") "__get__") (some (some (.builtin "getset_descriptor.__get__"))) &&
    (decide (PySem.W.takesIn K (.builtin "object.__class__") = some true) && decide (PySem.W.mroIn K D (.type "object") = some true)))))))
theorem excCB_ok {K : PySem.W.Frag} {D : Addr} (h : excCB K D = true) : ExcC K D := by
  unfold excCB at h
  obtain ⟨h1, h⟩ := ba h
  obtain ⟨h2, h⟩ := ba h
  obtain ⟨h3, h⟩ := ba h
  obtain ⟨h4, h⟩ := ba h
  obtain ⟨h5, h⟩ := ba h
  obtain ⟨h6, h⟩ := ba h
  obtain ⟨h7, h8⟩ := ba h
  exact ⟨eqO_ok h1, eqO_ok h2, of_decide_eq_true h3, h4, eqO_ok h5, eqO_ok h6, of_decide_eq_true h7, of_decide_eq_true h8⟩
def clsB (K : PySem.W.Frag) (D : Addr) (c : Str) (b : Bool) : Bool := if c = "ValueError" then eqO (PySem.W.nsIn K mainGlobals c) (some none) && decide (PySem.W.kitOne K (.ref D) (.type "ValueError") = some b)
  else eqO (PySem.W.nsIn K mainGlobals c) (some (some (.ref (ga K c)))) && decide (PySem.W.kitOne K (.ref D) (.ref (ga K c)) = some b)
theorem clsB_ok {K : PySem.W.Frag} {h : Heap} {mg : Str → Option Value} (X : K.In h) (G : h.Ns mainGlobals mg) {D : Addr} {c : Str} {b : Bool} (e : clsB K D c b = true) : Mh.ClsK K mg D c b := by
  unfold clsB at e
  split at e
  · rename_i q
    subst q
    obtain ⟨h1, h2⟩ := ba e
    exact .inr ⟨PySem.W.mg_none_of X G (eqO_ok h1), "ValueError", by decide +kernel, by decide +kernel, of_decide_eq_true h2⟩
  · obtain ⟨h1, h2⟩ := ba e
    exact .inl ⟨_, PySem.W.mg_of X G (eqO_ok h1), of_decide_eq_true h2⟩
def clssB (K : PySem.W.Frag) (D : Addr) : List Str → List Bool → Bool
  | [], [] => true
  | c :: cs, b :: bs => clsB K D c b && clssB K D cs bs
  | _, _ => false
theorem clssB_ok {K : PySem.W.Frag} {h : Heap} {mg : Str → Option Value} (X : K.In h) (G : h.Ns mainGlobals mg) {D : Addr} : ∀ {cs : List Str} {fl : List Bool}, clssB K D cs fl = true → Paired (Mh.ClsK K mg D) cs fl
  | [], [], _ => .nil
  | c :: cs, b :: bs, e => by
    obtain ⟨h1, h2⟩ := ba (show (clsB K D c b && clssB K D cs bs) = true from e)
    exact .cons (clsB_ok X G h1) (clssB_ok X G h2)
  | [], _ :: _, e => by cases e
  | _ :: _, [], e => by cases e
/-- the exception class named D: its flags, its label -/
def lblB (K : PySem.W.Frag) (L : Str) (cs : List Str) (CE D : Str) (fl : List Bool) : Bool :=
  decide (PySem.W.exmOne K (.ref (ga K D)) (.ref (ga K CE)) = some true) && (excCB K (ga K D) && (clssB K (ga K D) cs fl && (decide ((Txt.split L " ").length ≤ fl.length) && decide (fl.length ≤ sizeLine))))
theorem lblB_ok {K : PySem.W.Frag} {h : Heap} {mg : Str → Option Value} (X : K.In h) (G : h.Ns mainGlobals mg) {L : Str} {cs : List Str} {CE D : Str} {fl : List Bool} (e : lblB K L cs CE D fl = true) : Mh.LblE K mg L cs (ga K CE) (ga K D) (Mh.nameRes L fl) := by
  obtain ⟨h1, e⟩ := ba e
  obtain ⟨h2, e⟩ := ba e
  obtain ⟨h3, e⟩ := ba e
  obtain ⟨h4, h5⟩ := ba e
  exact ⟨of_decide_eq_true h1, excCB_ok h2, fl, clssB_ok X G h3, of_decide_eq_true h4, of_decide_eq_true h5, rfl⟩
/-! ### defs -/
/-- so many values go to the parameters ps -/
abbrev BindOk (x qual : Str) (params : Arguments) (body : List Stmt) (scope : Scope) (ps : List Str) : Prop := ∀ (kV doc pm : Value) (an : Option Addr) (cdv ct : Value) (us : List Value), us.length = ps.length → bindArgs (PySem.W.fnOf x qual params body scope .none kV doc pm an cdv ct) ⟨us, []⟩ = pure (ps.zip us)
def scB (N ps : List Str) (sc : Scope) : Bool :=
  (match sc.kind with | .function => true | _ => false) && (!sc.isCoroutine && (!sc.isGenerator && (decide N.Nodup && (decide (N.take ps.length = ps) && ((ps.all fun x => decide (sc.names.lookup x = some .local) || decide (sc.names.lookup x = some .cell)) && sc.names.all fun y => !decide (y.2 = .free))))))
theorem scB_ok {N ps : List Str} {sc : Scope} (h : scB N ps sc = true) : FnScope N ps sc ∧ sc.kind = .function := by
  unfold scB at h
  obtain ⟨h1, h⟩ := ba h
  obtain ⟨h2, h⟩ := ba h
  obtain ⟨h3, h⟩ := ba h
  obtain ⟨h4, h⟩ := ba h
  obtain ⟨h5, h⟩ := ba h
  obtain ⟨h6, h7⟩ := ba h
  have hk : sc.kind = .function := by
    split at h1
    · assumption
    · cases h1
  refine ⟨⟨hk, by simpa using h2, by simpa using h3, of_decide_eq_true h4, of_decide_eq_true h5, fun x hx => ?_, fun y hy e => ?_⟩, hk⟩
  · have := List.all_eq_true.mp h6 x hx
    simp only [Bool.or_eq_true, decide_eq_true_eq] at this
    exact this
  · have := List.all_eq_true.mp h7 y hy
    simp [e] at this
/-- the def named x, the statement st -/
abbrev dfd (x : Str) (st : Stmt) : DefD := ⟨(x, none), x, x, defArgs st, defBody st, defScope st, [], []⟩
def Cf.at (cf : Cf) (lin : List Nat) (ml : List (Nat × Nat)) (still : List (Nat × List Nat)) (lam : Bool) : Cf := { cf with lin := lin, ml := ml, still := still, lam := lam }
section
variable {P : Program} {w : World} {K : PySem.W.Frag} {mg : Str → Option Value} {base h : Heap} {T : TW} {cf : Cf} {fa : List Fa} {fn : List DefD}
theorem lookup_mem2 {α : Type} {x : Str} {d : α} : ∀ {l : List (Str × α)}, l.lookup x = some d → (x, d) ∈ l
  | [], h => by cases h
  | (y, u) :: r, h => by
    have h2 : (match x == y with | true => some u | false => r.lookup x) = some d := h
    cases q : (x == y) with
    | true =>
      rw [q] at h2
      cases h2
      rw [beq_iff_eq.mp q]
      exact List.mem_cons_self
    | false =>
      rw [q] at h2
      exact List.mem_cons_of_mem _ (lookup_mem2 h2)
theorem nodup_map {α β : Type} {f : α → β} {x y : α} : ∀ {l : List α}, (l.map f).Nodup → x ∈ l → y ∈ l → f x = f y → x = y
  | [], _, hx, _, _ => by cases hx
  | a :: l, nd, hx, hy, e => by
    rw [List.map_cons, List.nodup_cons] at nd
    have key : ∀ {z}, z ∈ l → f a ≠ f z := fun {z} hz q => nd.1 (List.mem_map.mpr ⟨z, hz, q.symm⟩)
    rcases List.mem_cons.mp hx with h1 | h1
    · rcases List.mem_cons.mp hy with h2 | h2
      · rw [h1, h2]
      · rw [h1] at e; exact absurd e (key h2)
    · rcases List.mem_cons.mp hy with h2 | h2
      · rw [h2] at e; exact absurd e.symm (key h1)
      · exact nodup_map nd.2 h1 h2 e
/-- what a def promises, and that it can be called -/
def Kn (P : Program) (w : World) (K : PySem.W.Frag) (mg : Str → Option Value) (base : Heap) (T : TW) (j : Nat) (x : Str) (a : Nat) (F : Sem) : Prop :=
  ∃ f fd ps, mg x = some (.ref f) ∧ PySem.W.keepIn K (.ref f) = true ∧ Binds K fd ps [] ∧ FnOk P w K mg base (L2N.CX P w) j f fd ps (spF K mg T a F)
theorem Kn.mono {j k : Nat} {x : Str} {a : Nat} {F : Sem} (h : Kn P w K mg base T j x a F) (hk : j ≤ k) : Kn P w K mg base T k x a F := by
  obtain ⟨f, fd, ps, h1, h2, h3, h4⟩ := h
  exact ⟨f, fd, ps, h1, h2, h3, h4.mono hk⟩
theorem Wd.at {j : Nat} (wd : Wd P w K mg base T cf j) (lin : List Nat) (ml : List (Nat × Nat)) (still : List (Nat × List Nat)) (lam : Bool) : Wd P w K mg base T (cf.at lin ml still lam) j := ⟨wd.fns, wd.cons, wd.bis, wd.excs, wd.err, wd.xcs, wd.tw⟩
theorem Wd.add {j k : Nat} (wd : Wd P w K mg base T cf j) (hk : j ≤ k) {x : Str} {a : Nat} {F : Sem} (h : Kn P w K mg base T k x a F) : Wd P w K mg base T { cf with fns := (x, a, F) :: cf.fns } k := by
  refine ⟨fun y b G e => ?_, wd.cons, wd.bis, wd.excs, wd.err, wd.xcs, wd.tw⟩
  have e : (match y == x with | true => some (a, F) | false => cf.fns.lookup y) = some (b, G) := e
  cases q : (y == x) with
  | true =>
    rw [q] at e
    cases e
    rw [beq_iff_eq.mp q]
    exact h
  | false =>
    rw [q] at e
    obtain ⟨f, fd, ps, h1, h2, h3, h4⟩ := wd.fns y b G e
    exact ⟨f, fd, ps, h1, h2, h3, h4.mono hk⟩
/-- where lambdas are made, by the code object of K -/
theorem kn_of {j n : Nat} (wd : Wd P w K mg base T cf j) (X : K.In h) (G : h.Ns mainGlobals mg) (c : SaysD fa fn K) {x : Str} {st : Stmt} (hd : dfd x st ∈ fn) (hg : Fa.glo x ∈ fa) {ps N : List Str} {lin : List Nat} {ml : List (Nat × Nat)} {still : List (Nat × List Nat)} {lam : Bool} {cb : Ss} {F : Sem}
    (ha : BindOk x x (defArgs st) (defBody st) (defScope st) ps) (hs : scB N ps (defScope st) = true) (hc : cSsF (cf.at lin ml still lam) (cS (cf.at lin ml still lam) N n (defScope st)) (defBody st) = some cb) (hF : F = run ps.length N.length cb)
    (hl : lam = true → ∀ fd, FunD K x x (defArgs st) (defBody st) (defScope st) [] [] (ga K x) fd → LamD base mg T fd.code x) : Kn P w K mg base T (j + 3) x ps.length F := by
  obtain ⟨fd, FD⟩ := c.defs hd
  have FD : FunD K x x (defArgs st) (defBody st) (defScope st) [] [] (ga K x) fd := FD
  obtain ⟨S, hk⟩ := scB_ok hs
  exact ⟨ga K x, fd, ps, He.glo_ok X G (c.facts hg), FD.kp, FD.bindsN ha, def_ok (k := j + 2) (wd.at lin ml still lam) FD S hk S.nd hc hF (by omega) (by omega) (fun z => ⟨Nat.le_refl _, hl z fd FD⟩)⟩
/-- the law's own def -/
theorem kn_law {j n : Nat} {base : Heap} (wd : Wd P w K mg base T cf j) (c : SaysD fa fn K) {x : Str} {st : Stmt} {fd : FuncData} (FD : FunD K x x (defArgs st) (defBody st) (defScope st) [] [] (ga K x) fd) {ps N : List Str} {lin : List Nat} {ml : List (Nat × Nat)} {still : List (Nat × List Nat)} {lam : Bool} {cb : Ss} {F : Sem}
    (hs : scB N ps (defScope st) = true) (hc : cSsF (cf.at lin ml still lam) (cS (cf.at lin ml still lam) N n (defScope st)) (defBody st) = some cb) (hF : F = run ps.length N.length cb) (hl : lam = true → LamD base mg T fd.code x) : FnOk P w K mg base (L2N.CX P w) (j + 3) (ga K x) fd ps (spF K mg T ps.length F) := by
  obtain ⟨S, hk⟩ := scB_ok hs
  exact def_ok (k := j + 2) (wd.at lin ml still lam) FD S hk S.nd hc hF (by omega) (by omega) (fun z => ⟨Nat.le_refl _, hl z⟩)
/-- the defs that name exceptions: error's statement, names' statement, what they say -/
structure ErrI (fa : List Fa) (fn : List DefD) (K : PySem.W.Frag) (cf : Cf) where
  x : Str
  nx : Str
  sx : Stmt
  sn : Stmt
  CE : Str
  L : Str
  cs : List Str
  lbl : List (Str × List Bool)
  hx : dfd x sx ∈ fn
  hn : dfd nx sn ∈ fn
  gx : Fa.glo x ∈ fa
  gn : Fa.glo nx ∈ fa
  gC : Fa.glo CE ∈ fa
  gl : ∀ p ∈ lbl, Fa.glo p.1 ∈ fa
  sc : scB Mh.NE Mh.cL (defScope sx) = true
  sc2 : scB Mh.NN Mh.eL (defScope sn) = true
  bx : BindOk x x (defArgs sx) (defBody sx) (defScope sx) Mh.cL
  bn : BindOk nx nx (defArgs sn) (defBody sn) (defScope sn) Mh.eL
  rx : Mh.errOf (defScope sx) (defBody sx) = some (CE, nx)
  rn : Mh.namesOf (defScope sn) (defBody sn) = some (L, cs)
  al : cs.all (glB (defScope sn)) = true
  z1 : L.length + 2 ≤ sizeLine
  z2 : ((Txt.split L " ").map (·.length)).sum + (Txt.split L " ").length * (" " : Str).length ≤ 16777216
  m1 : Fa.free "isinstance" ∈ fa
  m2 : Fa.free "zip" ∈ fa
  ok : (lbl.all fun p => lblB K L cs CE p.1 p.2) = true
  eq : cf.err = some (x, lbl.map fun p => (p.1, Mh.nameRes L p.2))
theorem look_map {α β : Type} [BEq α] [LawfulBEq α] {f : α × β → γ} {l : List (α × β)} {c : α} {y : γ} (h : (l.map fun p => (p.1, f p)).lookup c = some y) : ∃ b, (c, b) ∈ l ∧ y = f (c, b) := by
  induction l with
  | nil => cases h
  | cons p l ih =>
    obtain ⟨a, b⟩ := p
    have h : (match c == a with | true => some (f (a, b)) | false => (l.map fun p => (p.1, f p)).lookup c) = some y := h
    cases q : (c == a) with
    | true =>
      rw [q] at h
      cases h
      have := beq_iff_eq.mp q
      subst this
      exact ⟨b, List.mem_cons_self, rfl⟩
    | false =>
      rw [q] at h
      obtain ⟨b', h1, h2⟩ := ih h
      exact ⟨b', List.mem_cons_of_mem _ h1, h2⟩
theorem ErrI.wd (X : K.In h) (G : h.Ns mainGlobals mg) (c : SaysD fa fn K) (I : ErrI fa fn K cf) : ∀ x nms, cf.err = some (x, nms) → ∃ g pg bg sg fd L cs CE, Mh.ErrD K mg x pg bg sg g fd L cs CE ∧ ∀ c lbl, nms.lookup c = some lbl → ∀ C, mg c = some (.ref C) → Mh.LblE K mg L cs CE C lbl := by
  intro x nms e
  rw [I.eq] at e
  cases e
  obtain ⟨fd, FD⟩ := c.defs I.hx
  obtain ⟨fd2, FD2⟩ := c.defs I.hn
  have FD : FunD K I.x I.x (defArgs I.sx) (defBody I.sx) (defScope I.sx) [] [] (ga K I.x) fd := FD
  have FD2 : FunD K I.nx I.nx (defArgs I.sn) (defBody I.sn) (defScope I.sn) [] [] (ga K I.nx) fd2 := FD2
  refine ⟨ga K I.x, _, _, _, fd, I.L, I.cs, ga K I.CE, ⟨FD, (scB_ok I.sc).1, ⟨I.CE, I.nx, I.rx, He.glo_ok X G (c.facts I.gC), _, _, _, _, _, _, ⟨FD2, (scB_ok I.sc2).1, I.rn, I.al, I.z1, I.z2, He.free_ok X G (c.facts I.m1), He.free_ok X G (c.facts I.m2), FD2.bindsN I.bn, He.glo_ok X G (c.facts I.gn)⟩⟩, FD.bindsN I.bx, He.glo_ok X G (c.facts I.gx)⟩, fun d lbl hl C hC => ?_⟩
  obtain ⟨fl, hm, rfl⟩ := look_map (f := fun p : Str × List Bool => Mh.nameRes I.L p.2) hl
  have := hC.symm.trans (He.glo_ok X G (c.facts (I.gl _ hm)))
  cases this
  exact lblB_ok X G (List.all_eq_true.mp I.ok _ hm)
theorem wd0 (hT : T.w = w) (X : K.In h) (G : h.Ns mainGlobals mg) (c : SaysD fa fn K) (hfn : cf.fns = []) (hb : ∀ x ∈ biNames, Fa.free x ∈ fa) (hc : (cf.cons.all fun p => conB K p) = true) (he : ∀ x ∈ cf.excs, Fa.exc x ∈ fa ∧ Fa.glo x ∈ fa)
    (hr : ∀ x nms, cf.err = some (x, nms) → ∃ g pg bg sg fd L cs CE, Mh.ErrD K mg x pg bg sg g fd L cs CE ∧ ∀ c lbl, nms.lookup c = some lbl → ∀ C, mg c = some (.ref C) → Mh.LblE K mg L cs CE C lbl) (hxc : ∀ c ∈ cf.xcs, ∃ C, XcD P w K mg base 1 c C := by intro c h; cases h) : Wd P w K mg base T cf 0 := by
  refine ⟨fun x a F e => (by rw [hfn] at e; cases e), fun x d e => ?_, fun x hx => He.free_ok X G (c.facts (hb x hx)), fun x hx => ?_, hr, hxc, hT⟩
  · exact conB_ok X G (List.all_eq_true.mp hc _ (lookup_mem2 e))
  · obtain ⟨h1, h2, h3, h4⟩ := He.exc_ok (c.facts (he x hx).1)
    refine ⟨ga K x, He.glo_ok X G (c.facts (he x hx).2), h1, h2, fun Y e1 e2 e3 e4 => ?_⟩
    subst e3
    exact raises_own h3 h4
/-! ### the hook that sees the model's own table too -/
/-! ### exceptions with an attribute -/
/-! ### the end -/
/-- the tables of the defs tf -/
def tabL (w : World) (K : PySem.W.Frag) (tf : List Str) : TW := ⟨w, tf.map fun x => ((cT K (x, none)).2, x ++ ".<locals>." ++ "<lambda>")⟩
theorem lamD_of {tf : List Str} {x : Str} {st : Stmt} (hx : x ∈ tf) (nd : (tf.map fun x => (cT K (x, none)).2).Nodup) (hT : ∀ y ∈ tf, LamX.TabB base mg (cT K (y, none)).1 (cT K (y, none)).2) (fd : FuncData) (FD : FunD K x x (defArgs st) (defBody st) (defScope st) [] [] (ga K x) fd) : LamD base mg (tabL w K tf) fd.code x := by
  obtain ⟨oc, od, dV, kV, doc, pm, an, cdv, ct, osl, rfl, lk, hcd, _, _⟩ := FD.ex
  obtain ⟨cc, hcc⟩ := codeIn_ref hcd
  subst hcc
  have e : codeOf K (x, none) = cc := codeOf_eq (p := (x, none)) lk rfl
  refine ⟨cc, (cT K (x, none)).2, rfl, ?_, List.mem_map.mpr ⟨x, hx, rfl⟩, fun p hp hq => ?_⟩
  · have := hT x hx
    rw [show (cT K (x, none)).1 = cc from e] at this
    exact this
  · obtain ⟨y, hy, rfl⟩ := List.mem_map.mp hp
    have : y = x := nodup_map nd hy hx hq
    rw [this]
end
/-- the law's end -/
theorem walk_X {l : PySem.W.OpenLaw} {n k : Nat} {q : Program} {loose : List Str} {XP : (Str → Option Value) → Heap → Prop} {d : DefRec} {x lx : Str} {dn : Nat} {fa : List Fa} {fn : List DefD} {tf : List Str} {ex : PySem.W.Frag → Bool} {F : Sem}
    (hn : l.most = some n) (hn2 : n ≤ sizeLine) (hdf : d.params.defaults = []) (hd : d.name = lx) (hr : Room k callerA)
    (hK : ∀ (w : World) (K : PySem.W.Frag) (h : Heap) (mg : Str → Option Value), K.In h → h.Ns mainGlobals mg → SaysD fa fn K → ex K = true →
      ∃ fd, mg lx = some (.ref (ga K lx)) ∧ (∀ (s : Shared) (u : Value), BindsTo s fd ⟨[u], []⟩ [(x, u)]) ∧ ∀ base : Heap, (∀ y ∈ tf, LamX.TabB base mg (cT K (y, none)).1 (cT K (y, none)).2) → FnOk l.prog w K mg base (L2N.CX l.prog w) k (ga K lx) fd [x] (spF K mg (tabL w K tf) 1 F))
    (hF : ∀ ns : List Int, ns.length ≤ n → (∀ z ∈ ns, Builtin.Int.intBits z ≤ 1048576) → ∃ μ, F [.scr ns] [] = some (.ok (.bl true), μ)) :
    PySem.W.WalkO q loose XP (hookX dn fa fn [] (tf.map fun x => (x, none)) ex).says l.row.toRowW d [] (fun f vs => PySem.call f vs) := by
  refine Att.attach_callB hn hdf fun w s₀ s₁ mg mb f o pm cd doc a vs ns G Y ho hd' hcd hmg hobj hints hlen hbits hg => ?_
  obtain ⟨K, KX, S⟩ := Y
  have hc : SaysD fa fn K := S.t.d
  have mem : ∀ y ∈ tf, ((y, none) : Defn) ∈ tf.map fun x => ((x, none) : Defn) := fun y hy => List.mem_map.mpr ⟨y, hy, rfl⟩
  have CH : ∀ p ∈ tf.map (fun x => cT K (x, none)), PySem.W.CodeHd s₁.heap p.1 p.2 := fun p hp => by
    obtain ⟨y, hy, rfl⟩ := List.mem_map.mp hp
    exact PySem.W.codeHd_of_K KX (S.hd _ (mem y hy))
  have hlx : mg lx = some (.ref f) := by rw [← hd]; exact hmg
  obtain ⟨fd, e1, hb, hok⟩ := hK w K s₁.heap mg KX G.T.g hc S.more
  have e2 : f = ga K lx := by
    have := hlx.symm.trans e1
    cases this
    rfl
  rw [e2]
  refine LamX.law_callTs (CX := L2N.CX l.prog w) (sp := spF K mg (tabL w K tf) 1 F) (cs := tf.map fun x => cT K (x, none)) KX G.T.g G.T.b G.T.builtins G.T.nolimit hg (fun p hp => ?_) (fun p hp => ?_) CH G.T.bmain hobj hints (Nat.le_trans hlen hn2) hr (fun base kb nb TB => ?_) hb (fun H hH hS => ?_) (fun H e s' z => ?_)
  · obtain ⟨y, hy, rfl⟩ := List.mem_map.mp hp
    exact S.empty _ (mem y hy)
  · obtain ⟨y, hy, rfl⟩ := List.mem_map.mp hp
    exact S.out _ (mem y hy)
  · exact hok base fun y hy => TB _ (List.mem_map.mpr ⟨y, hy, rfl⟩)
  · obtain ⟨μ, e⟩ := hF _ hlen hbits
    refine ⟨rfl, [], [], [], [.scr ns], ⟨.nil, rfl, fun n m z => (by simp at z), fun z hz => (by cases hz), fun p hp => ?_⟩, ⟨_, _, rfl, ⟨a, rfl, ?_⟩, rfl⟩, ?_⟩
    · obtain ⟨y, hy, rfl⟩ := List.mem_map.mp hp
      exact LamX.TabS.nil (hH _ (List.mem_map.mpr ⟨y, hy, rfl⟩))
    · rcases hS with hS | hS
      · exact .inl ⟨hS, by simp, by simp⟩
      · exact .inr hS
    · rw [e]
      exact fun ι' v H' _ _ r => r
  · obtain ⟨_, _, _, _, _, _, _, _, _, _, _, _, z⟩ := z
    exact z
end Mi
set_option Elab.async false
set_option linter.all false
set_option maxRecDepth 100000
/-! Pg: what the defs of the package and of the laws read as, each once (made by wip/genpg.py). -/
namespace Pg
open PySem PySem.Spec L2 Mi
def N_is_whole : List Str := [("value" : Str), ("low" : Str), ("high" : Str)]
def B_is_whole : Ss := (.cons (.ret (.and_ (.bi .isi (.cons (.var 0) (.cons (.con (.ty "int")) .nil))) (.and_ (.not_ (.bi .isi (.cons (.var 0) (.cons (.con (.ty "bool")) .nil)))) (.chain (.cm .le) (.cm .le) (.var 1) (.var 0) (.var 2))))) .nil)
def Fis_whole : Sem := run 3 3 B_is_whole
def N_is_word : List Str := [("value" : Str), ("words" : Str)]
def B_is_word : Ss := (.cons (.ret (.and_ (.bi .isi (.cons (.var 0) (.cons (.con (.ty "str")) .nil))) (.op .in_ (.var 0) (.var 1)))) .nil)
def Fis_word : Sem := run 2 2 B_is_word
def N_is_source : List Str := [("board" : Str), ("when" : Str), ("value" : Str)]
def B_is_source : Ss := (.cons (.ite (.bi .isi (.cons (.var 2) (.cons (.con (.ty "str")) .nil))) (.cons (.ret (.and_ (.op .in_ (.var 2) (.tup (.cons (.con (.str "x")) (.cons (.con (.str "y")) .nil)))) (.op .nin (.var 1) (.tup (.cons (.con (.str "minor")) (.cons (.con (.str "major")) .nil)))))) .nil) .nil) (.cons (.ret (.call Fis_whole (.cons (.var 2) (.cons (.con (.int (0))) (.cons (.op .sub (.idx (.var 0) (.con (.int (0)))) (.con (.int (1)))) .nil))))) .nil))
def Fis_source : Sem := run 3 3 B_is_source
def N_is_printing : List Str := [("board" : Str), ("when" : Str), ("value" : Str), ("item" : Str)]
def B_is_printing : Ss := (.cons (.ite (.or_ (.not_ (.bi .isi (.cons (.var 2) (.cons (.con (.ty "tuple")) .nil)))) (.not_ (.chain (.cm .le) (.cm .le) (.con (.int (1))) (.bi .len (.cons (.var 2) .nil)) (.con (.int (3)))))) (.cons (.ret (.con (.bl false))) .nil) .nil) (.cons (.ret (.op .eq (.comp (.var 3) (.name 3) (.seq (.var 2)) (.not_ (.call Fis_source (.cons (.var 0) (.cons (.var 1) (.cons (.var 3) .nil))))) [3]) (.lst .nil))) .nil))
def Fis_printing : Sem := run 3 4 B_is_printing
def N_is_action : List Str := [("board" : Str), ("when" : Str), ("value" : Str)]
def B_is_action : Ss := (.cons (.ite (.or_ (.not_ (.bi .isi (.cons (.var 2) (.cons (.con (.ty "tuple")) .nil)))) (.or_ (.op .eq (.var 2) (.tup .nil)) (.not_ (.bi .isi (.cons (.idx (.var 2) (.con (.int (0)))) (.cons (.con (.ty "str")) .nil)))))) (.cons (.ret (.con (.bl false))) .nil) .nil) (.cons (.ite (.op .in_ (.idx (.var 2) (.con (.int (0)))) (.tup (.cons (.con (.str "add")) (.cons (.con (.str "less")) .nil)))) (.cons (.ret (.and_ (.op .eq (.bi .len (.cons (.var 2) .nil)) (.con (.int (3)))) (.and_ (.call Fis_source (.cons (.var 0) (.cons (.var 1) (.cons (.idx (.var 2) (.con (.int (1)))) .nil)))) (.call Fis_whole (.cons (.idx (.var 2) (.con (.int (2)))) (.cons (.con (.int (0))) (.cons (.op .sub (.idx (.var 0) (.con (.int (0)))) (.con (.int (1)))) .nil))))))) .nil) .nil) (.cons (.ite (.op .eq (.idx (.var 2) (.con (.int (0)))) (.con (.str "clear"))) (.cons (.ret (.and_ (.op .eq (.bi .len (.cons (.var 2) .nil)) (.con (.int (2)))) (.call Fis_whole (.cons (.idx (.var 2) (.con (.int (1)))) (.cons (.con (.int (0))) (.cons (.op .sub (.idx (.var 0) (.con (.int (0)))) (.con (.int (1)))) .nil)))))) .nil) .nil) (.cons (.ite (.op .eq (.idx (.var 2) (.con (.int (0)))) (.con (.str "set"))) (.cons (.ret (.and_ (.op .eq (.bi .len (.cons (.var 2) .nil)) (.con (.int (3)))) (.and_ (.call Fis_whole (.cons (.idx (.var 2) (.con (.int (1)))) (.cons (.con (.int (0))) (.cons (.op .sub (.idx (.var 0) (.con (.int (1)))) (.con (.int (1)))) .nil)))) (.bi .isi (.cons (.idx (.var 2) (.con (.int (2)))) (.cons (.con (.ty "bool")) .nil)))))) .nil) .nil) (.cons (.ret (.and_ (.op .eq (.idx (.var 2) (.con (.int (0)))) (.con (.str "print"))) (.and_ (.op .eq (.bi .len (.cons (.var 2) .nil)) (.con (.int (2)))) (.call Fis_printing (.cons (.var 0) (.cons (.var 1) (.cons (.idx (.var 2) (.con (.int (1)))) .nil))))))) .nil)))))
def Fis_action : Sem := run 3 3 B_is_action
def N_is_wire : List Str := [("board" : Str), ("value" : Str)]
def B_is_wire : Ss := (.cons (.ite (.or_ (.not_ (.bi .isi (.cons (.var 1) (.cons (.con (.ty "tuple")) .nil)))) (.or_ (.op .ne (.bi .len (.cons (.var 1) .nil)) (.con (.int (3)))) (.not_ (.call Fis_word (.cons (.idx (.var 1) (.con (.int (0)))) (.cons (.con (.tup [(.str "card"), (.str "hole"), (.str "plain"), (.str "minor"), (.str "major")])) .nil)))))) (.cons (.ret (.con (.bl false))) .nil) .nil) (.cons (.ite (.op .isn (.idx (.var 1) (.con (.int (1)))) (.con .non)) (.cons (.ite (.or_ (.not_ (.bi .isi (.cons (.idx (.var 1) (.con (.int (1)))) (.cons (.con (.ty "tuple")) .nil)))) (.or_ (.op .ne (.bi .len (.cons (.idx (.var 1) (.con (.int (1)))) .nil)) (.con (.int (2)))) (.not_ (.bi .isi (.cons (.idx (.idx (.var 1) (.con (.int (1)))) (.con (.int (1)))) (.cons (.con (.ty "bool")) .nil)))))) (.cons (.ret (.con (.bl false))) .nil) .nil) (.cons (.ite (.not_ (.call Fis_whole (.cons (.idx (.idx (.var 1) (.con (.int (1)))) (.con (.int (0)))) (.cons (.con (.int (0))) (.cons (.op .sub (.idx (.var 0) (.con (.int (1)))) (.con (.int (1)))) .nil))))) (.cons (.ret (.con (.bl false))) .nil) .nil) .nil)) .nil) (.cons (.ret (.call Fis_action (.cons (.var 0) (.cons (.idx (.var 1) (.con (.int (0)))) (.cons (.idx (.var 1) (.con (.int (2)))) .nil))))) .nil)))
def Fis_wire : Sem := run 2 2 B_is_wire
def N_is_board : List Str := [("value" : Str), ("wire" : Str)]
def B_is_board : Ss := (.cons (.ite (.or_ (.not_ (.bi .isi (.cons (.var 0) (.cons (.con (.ty "tuple")) .nil)))) (.op .ne (.bi .len (.cons (.var 0) .nil)) (.con (.int (3))))) (.cons (.ret (.con (.bl false))) .nil) .nil) (.cons (.ite (.or_ (.not_ (.call Fis_whole (.cons (.idx (.var 0) (.con (.int (0)))) (.cons (.con (.int (0))) (.cons (.con (.int (3))) .nil))))) (.not_ (.call Fis_whole (.cons (.idx (.var 0) (.con (.int (1)))) (.cons (.con (.int (0))) (.cons (.con (.int (2))) .nil)))))) (.cons (.ret (.con (.bl false))) .nil) .nil) (.cons (.ite (.or_ (.not_ (.bi .isi (.cons (.idx (.var 0) (.con (.int (2)))) (.cons (.con (.ty "tuple")) .nil)))) (.op (.cm .gt) (.bi .len (.cons (.idx (.var 0) (.con (.int (2)))) .nil)) (.con (.int (8))))) (.cons (.ret (.con (.bl false))) .nil) .nil) (.cons (.ret (.op .eq (.comp (.var 1) (.name 1) (.seq (.idx (.var 0) (.con (.int (2))))) (.not_ (.call Fis_wire (.cons (.var 0) (.cons (.var 1) .nil)))) [1]) (.lst .nil))) .nil))))
def Fis_board : Sem := run 1 2 B_is_board
def N_break_between : List Str := [("one" : Str), ("other" : Str)]
def B_break_between : Ss := (.cons (.ite (.op .eq (.var 0) (.var 1)) (.cons (.ret (.con (.str "none"))) .nil) .nil) (.cons (.ret (.ite (.op .eq (.idx (.var 0) (.con (.int (0)))) (.idx (.var 1) (.con (.int (0))))) (.con (.str "minor")) (.con (.str "major")))) .nil))
def Fbreak_between : Sem := run 2 2 B_break_between
def N__law_vat : List Str := [("script" : Str), ("k" : Str), ("cell" : Str)]
def B__law_vat : Ss := (.cons (.set (.name 2) (.op .add (.op .mul (.con (.int (7919))) (.var 1)) (.con (.int (43))))) (.cons (.ite (.op (.cm .lt) (.var 1) (.bi .len (.cons (.var 0) .nil))) (.cons (.set (.name 2) (.bi .abs (.cons (.bi .int (.cons (.idx (.var 0) (.var 1)) .nil)) .nil))) .nil) .nil) (.cons (.ret (.mlst (.cons (.ite (.op (.cm .ge) (.var 2) (.op .pow (.con (.int (10))) (.con (.int (18))))) (.var 2) (.con (.int (0)))) (.cons (.op .add (.op .mod (.bi .int (.cons (.op .add (.op .add (.op .mul (.var 2) (.con (.int (131071)))) (.op .mul (.con (.int (8191))) (.var 1))) (.con (.int (5)))) .nil)) (.con (.int (2147483629)))) (.con (.int (1)))) .nil)))) .nil)))
def F_law_vat : Sem := run 2 3 B__law_vat
def N__law_under : List Str := [("vat" : Str), ("many" : Str), ("found" : Str), ("wide" : Str)]
def B__law_under : Ss := (.cons (.ite (.op (.cm .gt) (.idx (.var 0) (.con (.int (0)))) (.con (.int (0)))) (.cons (.set (.name 2) (.op .mod (.bi .int (.cons (.idx (.var 0) (.con (.int (0)))) .nil)) (.var 1))) (.cons (.put (.var 0) (.con (.int (0))) (.op .fdiv (.idx (.var 0) (.con (.int (0)))) (.var 1))) (.cons (.ret (.var 2)) .nil))) .nil) (.cons (.put (.var 0) (.con (.int (1))) (.op .mod (.bi .int (.cons (.op .add (.op .mul (.idx (.var 0) (.con (.int (1)))) (.con (.int (39373)))) (.con (.int (101)))) .nil)) (.con (.int (2147483629))))) (.cons (.set (.name 3) (.op .mod (.bi .int (.cons (.op .mul (.idx (.var 0) (.con (.int (1)))) (.op .add (.op .fdiv (.idx (.var 0) (.con (.int (1)))) (.con (.int (5)))) (.con (.int (9))))) .nil)) (.con (.int (2147483587))))) (.cons (.ret (.op .mod (.bi .int (.cons (.op .fdiv (.var 3) (.con (.int (32)))) .nil)) (.var 1))) .nil))))
def F_law_under : Sem := run 2 4 B__law_under
def N__law_some : List Str := [("vat" : Str), ("things" : Str)]
def B__law_some : Ss := (.cons (.ret (.idx (.var 1) (.call F_law_under (.cons (.var 0) (.cons (.bi .len (.cons (.var 1) .nil)) .nil))))) .nil)
def F_law_some : Sem := run 2 2 B__law_some
def N__law_is_whole : List Str := [("value" : Str), ("low" : Str), ("high" : Str)]
def B__law_is_whole : Ss := (.cons (.ret (.and_ (.bi .isi (.cons (.var 0) (.cons (.con (.ty "int")) .nil))) (.and_ (.not_ (.bi .isi (.cons (.var 0) (.cons (.con (.ty "bool")) .nil)))) (.chain (.cm .le) (.cm .le) (.var 1) (.var 0) (.var 2))))) .nil)
def F_law_is_whole : Sem := run 3 3 B__law_is_whole
def N__law_is_one_of : List Str := [("value" : Str), ("some" : Str)]
def B__law_is_one_of : Ss := (.cons (.ret (.and_ (.bi .isi (.cons (.var 0) (.cons (.con (.ty "str")) .nil))) (.op .in_ (.var 0) (.var 1)))) .nil)
def F_law_is_one_of : Sem := run 2 2 B__law_is_one_of
def N__law_is_from : List Str := [("frame" : Str), ("when" : Str), ("value" : Str)]
def B__law_is_from : Ss := (.cons (.ite (.bi .isi (.cons (.var 2) (.cons (.con (.ty "str")) .nil))) (.cons (.ret (.and_ (.op .in_ (.var 2) (.lst (.cons (.con (.str "x")) (.cons (.con (.str "y")) .nil)))) (.op .in_ (.var 1) (.lst (.cons (.con (.str "card")) (.cons (.con (.str "hole")) (.cons (.con (.str "plain")) .nil))))))) .nil) .nil) (.cons (.ret (.call F_law_is_whole (.cons (.var 2) (.cons (.con (.int (0))) (.cons (.op .sub (.idx (.var 0) (.con (.int (0)))) (.con (.int (1)))) .nil))))) .nil))
def F_law_is_from : Sem := run 3 3 B__law_is_from
def N__law_is_act : List Str := [("frame" : Str), ("when" : Str), ("value" : Str), ("item" : Str)]
def B__law_is_act : Ss := (.cons (.ite (.or_ (.not_ (.bi .isi (.cons (.var 2) (.cons (.con (.ty "tuple")) .nil)))) (.or_ (.op .nin (.bi .len (.cons (.var 2) .nil)) (.tup (.cons (.con (.int (2))) (.cons (.con (.int (3))) .nil)))) (.not_ (.bi .isi (.cons (.idx (.var 2) (.con (.int (0)))) (.cons (.con (.ty "str")) .nil)))))) (.cons (.ret (.con (.bl false))) .nil) .nil) (.cons (.ite (.op .eq (.bi .len (.cons (.var 2) .nil)) (.con (.int (2)))) (.cons (.ite (.op .eq (.idx (.var 2) (.con (.int (0)))) (.con (.str "clear"))) (.cons (.ret (.call F_law_is_whole (.cons (.idx (.var 2) (.con (.int (1)))) (.cons (.con (.int (0))) (.cons (.op .sub (.idx (.var 0) (.con (.int (0)))) (.con (.int (1)))) .nil))))) .nil) .nil) (.cons (.ite (.or_ (.op .ne (.idx (.var 2) (.con (.int (0)))) (.con (.str "print"))) (.or_ (.not_ (.bi .isi (.cons (.idx (.var 2) (.con (.int (1)))) (.cons (.con (.ty "tuple")) .nil)))) (.not_ (.chain (.cm .le) (.cm .le) (.con (.int (1))) (.bi .len (.cons (.idx (.var 2) (.con (.int (1)))) .nil)) (.con (.int (3))))))) (.cons (.ret (.con (.bl false))) .nil) .nil) (.cons (.ret (.op .eq (.comp (.var 3) (.name 3) (.seq (.idx (.var 2) (.con (.int (1))))) (.not_ (.call F_law_is_from (.cons (.var 0) (.cons (.var 1) (.cons (.var 3) .nil))))) [3]) (.lst .nil))) .nil))) .nil) (.cons (.ite (.op .eq (.idx (.var 2) (.con (.int (0)))) (.con (.str "set"))) (.cons (.ret (.and_ (.call F_law_is_whole (.cons (.idx (.var 2) (.con (.int (1)))) (.cons (.con (.int (0))) (.cons (.op .sub (.idx (.var 0) (.con (.int (1)))) (.con (.int (1)))) .nil)))) (.bi .isi (.cons (.idx (.var 2) (.con (.int (2)))) (.cons (.con (.ty "bool")) .nil))))) .nil) .nil) (.cons (.ite (.op .nin (.idx (.var 2) (.con (.int (0)))) (.tup (.cons (.con (.str "add")) (.cons (.con (.str "less")) .nil)))) (.cons (.ret (.con (.bl false))) .nil) .nil) (.cons (.ret (.and_ (.call F_law_is_from (.cons (.var 0) (.cons (.var 1) (.cons (.idx (.var 2) (.con (.int (1)))) .nil)))) (.call F_law_is_whole (.cons (.idx (.var 2) (.con (.int (2)))) (.cons (.con (.int (0))) (.cons (.op .sub (.idx (.var 0) (.con (.int (0)))) (.con (.int (1)))) .nil)))))) .nil)))))
def F_law_is_act : Sem := run 3 4 B__law_is_act
def N__law_is_wire : List Str := [("frame" : Str), ("value" : Str), ("switch" : Str)]
def B__law_is_wire : Ss := (.cons (.ite (.or_ (.not_ (.bi .isi (.cons (.var 1) (.cons (.con (.ty "tuple")) .nil)))) (.op .ne (.bi .len (.cons (.var 1) .nil)) (.con (.int (3))))) (.cons (.ret (.con (.bl false))) .nil) .nil) (.cons (.ite (.not_ (.call F_law_is_one_of (.cons (.idx (.var 1) (.con (.int (0)))) (.cons (.lst (.cons (.con (.str "card")) (.cons (.con (.str "hole")) (.cons (.con (.str "plain")) (.cons (.con (.str "minor")) (.cons (.con (.str "major")) .nil)))))) .nil)))) (.cons (.ret (.con (.bl false))) .nil) .nil) (.cons (.set (.name 2) (.idx (.var 1) (.con (.int (1))))) (.cons (.ite (.op .isn (.var 2) (.con .non)) (.cons (.ite (.or_ (.not_ (.bi .isi (.cons (.var 2) (.cons (.con (.ty "tuple")) .nil)))) (.or_ (.op .ne (.bi .len (.cons (.var 2) .nil)) (.con (.int (2)))) (.not_ (.bi .isi (.cons (.idx (.var 2) (.con (.int (1)))) (.cons (.con (.ty "bool")) .nil)))))) (.cons (.ret (.con (.bl false))) .nil) .nil) (.cons (.ite (.not_ (.call F_law_is_whole (.cons (.idx (.var 2) (.con (.int (0)))) (.cons (.con (.int (0))) (.cons (.op .sub (.idx (.var 0) (.con (.int (1)))) (.con (.int (1)))) .nil))))) (.cons (.ret (.con (.bl false))) .nil) .nil) .nil)) .nil) (.cons (.ret (.call F_law_is_act (.cons (.var 0) (.cons (.idx (.var 1) (.con (.int (0)))) (.cons (.idx (.var 1) (.con (.int (2)))) .nil))))) .nil)))))
def F_law_is_wire : Sem := run 2 3 B__law_is_wire
def N__law_is_board : List Str := [("value" : Str), ("wire" : Str)]
def B__law_is_board : Ss := (.cons (.ite (.or_ (.not_ (.bi .isi (.cons (.var 0) (.cons (.con (.ty "tuple")) .nil)))) (.op .ne (.bi .len (.cons (.var 0) .nil)) (.con (.int (3))))) (.cons (.ret (.con (.bl false))) .nil) .nil) (.cons (.ite (.or_ (.not_ (.call F_law_is_whole (.cons (.idx (.var 0) (.con (.int (0)))) (.cons (.con (.int (0))) (.cons (.con (.int (3))) .nil))))) (.not_ (.call F_law_is_whole (.cons (.idx (.var 0) (.con (.int (1)))) (.cons (.con (.int (0))) (.cons (.con (.int (2))) .nil)))))) (.cons (.ret (.con (.bl false))) .nil) .nil) (.cons (.ite (.or_ (.not_ (.bi .isi (.cons (.idx (.var 0) (.con (.int (2)))) (.cons (.con (.ty "tuple")) .nil)))) (.op (.cm .gt) (.bi .len (.cons (.idx (.var 0) (.con (.int (2)))) .nil)) (.con (.int (8))))) (.cons (.ret (.con (.bl false))) .nil) .nil) (.cons (.ret (.op .eq (.comp (.var 1) (.name 1) (.seq (.idx (.var 0) (.con (.int (2))))) (.not_ (.call F_law_is_wire (.cons (.slc (.var 0) .no (.yes (.con (.int (2))))) (.cons (.var 1) .nil)))) [1]) (.lst .nil))) .nil))))
def F_law_is_board : Sem := run 1 2 B__law_is_board
def N__law_act : List Str := [("vat" : Str), ("frame" : Str), ("when" : Str), ("counters" : Str), ("switches" : Str), ("some" : Str), ("way" : Str), ("word" : Str), ("many" : Str), ("item" : Str)]
def B__law_act : Ss := (.cons (.set (.pair (.name 3) (.name 4)) (.var 1)) (.cons (.set (.pair (.name 5) (.name 6)) (.tup (.cons (.lrng (.var 3)) (.cons (.call F_law_under (.cons (.var 0) (.cons (.con (.int (9))) .nil))) .nil)))) (.cons (.ite (.op .in_ (.var 2) (.lst (.cons (.con (.str "card")) (.cons (.con (.str "hole")) (.cons (.con (.str "plain")) .nil))))) (.cons (.set (.name 5) (.op .add (.var 5) (.lst (.cons (.con (.str "x")) (.cons (.con (.str "y")) (.cons (.con (.str "x")) .nil)))))) .nil) .nil) (.cons (.ite (.and_ (.op (.cm .gt) (.var 3) (.con (.int (0)))) (.op (.cm .lt) (.var 6) (.con (.int (4))))) (.cons (.set (.name 7) (.call F_law_some (.cons (.var 0) (.cons (.lst (.cons (.con (.str "add")) (.cons (.con (.str "add")) (.cons (.con (.str "less")) .nil)))) .nil)))) (.cons (.ret (.tup (.cons (.var 7) (.cons (.call F_law_some (.cons (.var 0) (.cons (.var 5) .nil))) (.cons (.call F_law_under (.cons (.var 0) (.cons (.var 3) .nil))) .nil))))) .nil)) .nil) (.cons (.ite (.and_ (.op (.cm .gt) (.var 3) (.con (.int (0)))) (.op .eq (.var 6) (.con (.int (4))))) (.cons (.ret (.tup (.cons (.con (.str "clear")) (.cons (.call F_law_under (.cons (.var 0) (.cons (.var 3) .nil))) .nil)))) .nil) .nil) (.cons (.ite (.and_ (.op (.cm .gt) (.var 4) (.con (.int (0)))) (.op (.cm .lt) (.var 6) (.con (.int (7))))) (.cons (.ret (.tup (.cons (.con (.str "set")) (.cons (.call F_law_under (.cons (.var 0) (.cons (.var 4) .nil))) (.cons (.op (.cm .gt) (.call F_law_under (.cons (.var 0) (.cons (.con (.int (3))) .nil))) (.con (.int (0)))) .nil))))) .nil) .nil) (.cons (.ite (.op .eq (.var 5) (.lst .nil)) (.cons (.ret (.tup .nil)) .nil) .nil) (.cons (.set (.name 8) (.call F_law_some (.cons (.var 0) (.cons (.lst (.cons (.con (.int (1))) (.cons (.con (.int (1))) (.cons (.con (.int (2))) (.cons (.con (.int (3))) .nil))))) .nil)))) (.cons (.ret (.tup (.cons (.con (.str "print")) (.cons (.bi .tuple (.cons (.comp (.call F_law_some (.cons (.var 0) (.cons (.var 5) .nil))) (.name 9) (.rng (.var 8)) (.con (.bl true)) [9]) .nil)) .nil)))) .nil)))))))))
def F_law_act : Sem := run 3 10 B__law_act
def N__law_wire : List Str := [("vat" : Str), ("frame" : Str), ("when" : Str), ("switch" : Str), ("act" : Str)]
def B__law_wire : Ss := (.cons (.set (.name 2) (.call F_law_some (.cons (.var 0) (.cons (.lst (.cons (.con (.str "card")) (.cons (.con (.str "card")) (.cons (.con (.str "hole")) (.cons (.con (.str "plain")) (.cons (.con (.str "minor")) (.cons (.con (.str "minor")) (.cons (.con (.str "major")) .nil)))))))) .nil)))) (.cons (.set (.pair (.name 3) (.name 4)) (.tup (.cons (.con .non) (.cons (.call F_law_act (.cons (.var 0) (.cons (.var 1) (.cons (.var 2) .nil)))) .nil)))) (.cons (.ite (.and_ (.op (.cm .gt) (.idx (.var 1) (.con (.int (1)))) (.con (.int (0)))) (.op .eq (.call F_law_under (.cons (.var 0) (.cons (.con (.int (3))) .nil))) (.con (.int (0))))) (.cons (.set (.name 3) (.tup (.cons (.call F_law_under (.cons (.var 0) (.cons (.idx (.var 1) (.con (.int (1)))) .nil))) (.cons (.op .eq (.call F_law_under (.cons (.var 0) (.cons (.con (.int (2))) .nil))) (.con (.int (0)))) .nil)))) .nil) .nil) (.cons (.ret (.ite (.op .ne (.var 4) (.tup .nil)) (.tup (.cons (.var 2) (.cons (.var 3) (.cons (.var 4) .nil)))) (.tup .nil))) .nil))))
def F_law_wire : Sem := run 2 5 B__law_wire
def N__law_board : List Str := [("vat" : Str), ("most" : Str), ("frame" : Str), ("wires" : Str), ("turn" : Str), ("wire" : Str)]
def B__law_board : Ss := (.cons (.set (.name 2) (.tup (.cons (.call F_law_some (.cons (.var 0) (.cons (.lst (.cons (.con (.int (0))) (.cons (.con (.int (1))) (.cons (.con (.int (1))) (.cons (.con (.int (2))) (.cons (.con (.int (2))) .nil)))))) .nil))) (.cons (.call F_law_some (.cons (.var 0) (.cons (.lst (.cons (.con (.int (0))) (.cons (.con (.int (0))) (.cons (.con (.int (1))) .nil)))) .nil))) .nil)))) (.cons (.set (.name 3) (.comp (.call F_law_wire (.cons (.var 0) (.cons (.var 2) .nil))) (.name 4) (.rng (.call F_law_under (.cons (.var 0) (.cons (.op .add (.var 1) (.con (.int (1)))) .nil)))) (.con (.bl true)) [4])) (.cons (.ret (.op .add (.var 2) (.tup (.cons (.bi .tuple (.cons (.comp (.var 5) (.name 5) (.seq (.var 3)) (.op .ne (.var 5) (.tup .nil)) [5]) .nil)) .nil)))) .nil)))
def F_law_board : Sem := run 2 6 B__law_board
def N__law_odd : List Str := [("vat" : Str), ("depth" : Str), ("some" : Str), ("row" : Str), ("part" : Str)]
def B0__law_odd : Ss := (.cons (.set (.name 2) (.lst (.cons (.con .non) (.cons (.con (.bl true)) (.cons (.con (.bl false)) (.cons (.con (.int (0))) (.cons (.con (.int (1))) (.cons (.con (.int (2))) (.cons (.con (.int (3))) (.cons (.neg (.con (.int (1)))) (.cons (.op .pow (.con (.int (10))) (.con (.int (31)))) (.cons (.con (.str "")) (.cons (.con (.str "x")) (.cons (.con (.str "y")) (.cons (.con (.str "card")) (.cons (.con (.str "minor")) (.cons (.con (.str "print")) (.cons (.con (.str "set")) (.cons (.tup .nil) (.cons (.lst .nil) .nil)))))))))))))))))))) (.cons (.set (.name 2) (.op .add (.var 2) (.lst (.cons (.tup (.cons (.con (.int (0))) (.cons (.con (.bl true)) .nil))) (.cons (.tup (.cons (.con (.str "print")) (.cons (.tup (.cons (.con (.str "x")) .nil)) .nil))) (.cons (.tup (.cons (.con (.str "add")) (.cons (.con (.str "x")) (.cons (.con (.int (0))) .nil)))) (.cons (.tup (.cons (.con (.str "none")) (.cons (.con (.bl true)) .nil))) (.cons (.tup (.cons (.con (.int (1))) (.cons (.con (.int (1))) (.cons (.con (.bl true)) (.cons (.con (.int (2))) (.cons (.con (.int (3))) .nil)))))) (.cons (.tup (.cons (.con (.int (0))) (.cons (.con (.int (0))) (.cons (.tup .nil) .nil)))) .nil))))))))) (.cons (.ite (.or_ (.op .eq (.var 1) (.con (.int (0)))) (.op (.cm .lt) (.call F_law_under (.cons (.var 0) (.cons (.con (.int (9))) .nil))) (.con (.int (6))))) (.cons (.ret (.call F_law_some (.cons (.var 0) (.cons (.var 2) .nil)))) .nil) .nil) (.cons .bot (.cons (.ret (.ite (.op .eq (.call F_law_under (.cons (.var 0) (.cons (.con (.int (3))) .nil))) (.con (.int (0)))) (.var 3) (.bi .tuple (.cons (.var 3) .nil)))) .nil)))))
def B__law_odd (F : Sem) : Ss := (.cons (.set (.name 2) (.lst (.cons (.con .non) (.cons (.con (.bl true)) (.cons (.con (.bl false)) (.cons (.con (.int (0))) (.cons (.con (.int (1))) (.cons (.con (.int (2))) (.cons (.con (.int (3))) (.cons (.neg (.con (.int (1)))) (.cons (.op .pow (.con (.int (10))) (.con (.int (31)))) (.cons (.con (.str "")) (.cons (.con (.str "x")) (.cons (.con (.str "y")) (.cons (.con (.str "card")) (.cons (.con (.str "minor")) (.cons (.con (.str "print")) (.cons (.con (.str "set")) (.cons (.tup .nil) (.cons (.lst .nil) .nil)))))))))))))))))))) (.cons (.set (.name 2) (.op .add (.var 2) (.lst (.cons (.tup (.cons (.con (.int (0))) (.cons (.con (.bl true)) .nil))) (.cons (.tup (.cons (.con (.str "print")) (.cons (.tup (.cons (.con (.str "x")) .nil)) .nil))) (.cons (.tup (.cons (.con (.str "add")) (.cons (.con (.str "x")) (.cons (.con (.int (0))) .nil)))) (.cons (.tup (.cons (.con (.str "none")) (.cons (.con (.bl true)) .nil))) (.cons (.tup (.cons (.con (.int (1))) (.cons (.con (.int (1))) (.cons (.con (.bl true)) (.cons (.con (.int (2))) (.cons (.con (.int (3))) .nil)))))) (.cons (.tup (.cons (.con (.int (0))) (.cons (.con (.int (0))) (.cons (.tup .nil) .nil)))) .nil))))))))) (.cons (.ite (.or_ (.op .eq (.var 1) (.con (.int (0)))) (.op (.cm .lt) (.call F_law_under (.cons (.var 0) (.cons (.con (.int (9))) .nil))) (.con (.int (6))))) (.cons (.ret (.call F_law_some (.cons (.var 0) (.cons (.var 2) .nil)))) .nil) .nil) (.cons (.set (.name 3) (.comp (.call F (.cons (.var 0) (.cons (.op .sub (.var 1) (.con (.int (1)))) .nil))) (.name 4) (.rng (.call F_law_under (.cons (.var 0) (.cons (.con (.int (4))) .nil)))) (.con (.bl true)) [4])) (.cons (.ret (.ite (.op .eq (.call F_law_under (.cons (.var 0) (.cons (.con (.int (3))) .nil))) (.con (.int (0)))) (.var 3) (.bi .tuple (.cons (.var 3) .nil)))) .nil)))))
def R__law_odd : Nat → Sem
  | 0 => run 2 5 B0__law_odd
  | n + 1 => run 2 5 (B__law_odd (R__law_odd n))
def F_law_odd : Sem := R__law_odd 4
def N__law_bent : List Str := [("vat" : Str), ("value" : Str), ("near" : Str), ("at" : Str), ("way" : Str)]
def B0__law_bent : Ss := (.cons (.ite (.or_ (.not_ (.bi .isi (.cons (.var 1) (.cons (.con (.ty "tuple")) .nil)))) (.or_ (.op .eq (.var 1) (.tup .nil)) (.op .eq (.call F_law_under (.cons (.var 0) (.cons (.con (.int (7))) .nil))) (.con (.int (0)))))) (.cons (.set (.name 2) (.lst (.cons (.call F_law_odd (.cons (.var 0) (.cons (.con (.int (1))) .nil))) (.cons (.call F_law_odd (.cons (.var 0) (.cons (.con (.int (1))) .nil))) .nil)))) (.cons (.ite (.bi .isi (.cons (.var 1) (.cons (.con (.ty "str")) .nil))) (.cons (.set (.name 2) (.op .add (.var 2) (.lst (.cons (.con (.str "x")) (.cons (.con (.str "hole")) (.cons (.con (.str "less")) (.cons (.con (.str "clear")) (.cons (.con (.str "major")) (.cons (.slc (.var 1) .no (.yes (.neg (.con (.int (1)))))) (.cons (.meth .upper (.var 1) .nil) .nil)))))))))) .nil) (.cons (.ite (.bi .isi (.cons (.var 1) (.cons (.con (.ty "int")) .nil))) (.cons (.set (.name 2) (.op .add (.var 2) (.lst (.cons (.op .add (.var 1) (.con (.int (1)))) (.cons (.op .sub (.var 1) (.con (.int (1)))) (.cons (.nott (.var 1)) (.cons (.bi .str (.cons (.var 1) .nil)) (.cons (.op .mul (.con (.int (10))) (.var 1)) .nil)))))))) .nil) .nil) .nil)) (.cons (.ret (.call F_law_some (.cons (.var 0) (.cons (.var 2) .nil)))) .nil))) .nil) (.cons (.set (.pair (.name 3) (.name 4)) (.tup (.cons (.call F_law_under (.cons (.var 0) (.cons (.bi .len (.cons (.var 1) .nil)) .nil))) (.cons (.call F_law_under (.cons (.var 0) (.cons (.con (.int (9))) .nil))) .nil)))) (.cons (.ite (.op .eq (.var 4) (.con (.int (0)))) (.cons (.ret (.op .add (.slc (.var 1) .no (.yes (.var 3))) (.slc (.var 1) (.yes (.op .add (.var 3) (.con (.int (1))))) .no))) .nil) .nil) (.cons (.ite (.op .eq (.var 4) (.con (.int (1)))) (.cons (.ret (.op .add (.slc (.var 1) .no (.yes (.op .add (.var 3) (.con (.int (1)))))) (.slc (.var 1) (.yes (.var 3)) .no))) .nil) .nil) (.cons (.ite (.op .eq (.var 4) (.con (.int (2)))) (.cons (.ret (.rev (.var 1))) .nil) .nil) (.cons (.ite (.op .eq (.var 4) (.con (.int (3)))) (.cons (.ret (.bi .list (.cons (.var 1) .nil))) .nil) .nil) (.cons .bot .nil)))))))
def B__law_bent (F : Sem) : Ss := (.cons (.ite (.or_ (.not_ (.bi .isi (.cons (.var 1) (.cons (.con (.ty "tuple")) .nil)))) (.or_ (.op .eq (.var 1) (.tup .nil)) (.op .eq (.call F_law_under (.cons (.var 0) (.cons (.con (.int (7))) .nil))) (.con (.int (0)))))) (.cons (.set (.name 2) (.lst (.cons (.call F_law_odd (.cons (.var 0) (.cons (.con (.int (1))) .nil))) (.cons (.call F_law_odd (.cons (.var 0) (.cons (.con (.int (1))) .nil))) .nil)))) (.cons (.ite (.bi .isi (.cons (.var 1) (.cons (.con (.ty "str")) .nil))) (.cons (.set (.name 2) (.op .add (.var 2) (.lst (.cons (.con (.str "x")) (.cons (.con (.str "hole")) (.cons (.con (.str "less")) (.cons (.con (.str "clear")) (.cons (.con (.str "major")) (.cons (.slc (.var 1) .no (.yes (.neg (.con (.int (1)))))) (.cons (.meth .upper (.var 1) .nil) .nil)))))))))) .nil) (.cons (.ite (.bi .isi (.cons (.var 1) (.cons (.con (.ty "int")) .nil))) (.cons (.set (.name 2) (.op .add (.var 2) (.lst (.cons (.op .add (.var 1) (.con (.int (1)))) (.cons (.op .sub (.var 1) (.con (.int (1)))) (.cons (.nott (.var 1)) (.cons (.bi .str (.cons (.var 1) .nil)) (.cons (.op .mul (.con (.int (10))) (.var 1)) .nil)))))))) .nil) .nil) .nil)) (.cons (.ret (.call F_law_some (.cons (.var 0) (.cons (.var 2) .nil)))) .nil))) .nil) (.cons (.set (.pair (.name 3) (.name 4)) (.tup (.cons (.call F_law_under (.cons (.var 0) (.cons (.bi .len (.cons (.var 1) .nil)) .nil))) (.cons (.call F_law_under (.cons (.var 0) (.cons (.con (.int (9))) .nil))) .nil)))) (.cons (.ite (.op .eq (.var 4) (.con (.int (0)))) (.cons (.ret (.op .add (.slc (.var 1) .no (.yes (.var 3))) (.slc (.var 1) (.yes (.op .add (.var 3) (.con (.int (1))))) .no))) .nil) .nil) (.cons (.ite (.op .eq (.var 4) (.con (.int (1)))) (.cons (.ret (.op .add (.slc (.var 1) .no (.yes (.op .add (.var 3) (.con (.int (1)))))) (.slc (.var 1) (.yes (.var 3)) .no))) .nil) .nil) (.cons (.ite (.op .eq (.var 4) (.con (.int (2)))) (.cons (.ret (.rev (.var 1))) .nil) .nil) (.cons (.ite (.op .eq (.var 4) (.con (.int (3)))) (.cons (.ret (.bi .list (.cons (.var 1) .nil))) .nil) .nil) (.cons (.ret (.op .add (.op .add (.slc (.var 1) .no (.yes (.var 3))) (.tup (.cons (.call F (.cons (.var 0) (.cons (.idx (.var 1) (.var 3)) .nil))) .nil))) (.slc (.var 1) (.yes (.op .add (.var 3) (.con (.int (1))))) .no))) .nil)))))))
def R__law_bent : Nat → Sem
  | 0 => run 2 5 B0__law_bent
  | n + 1 => run 2 5 (B__law_bent (R__law_bent n))
def F_law_bent : Sem := R__law_bent 24
def N_need_board : List Str := [("board" : Str)]
def B_need_board : Ss := (.cons (.ite (.not_ (.call Fis_board (.cons (.var 0) .nil))) (.cons (.raise "InvalidBoard") .nil) .nil) .nil)
def Fneed_board : Sem := run 1 1 B_need_board
def N_begin : List Str := [("board" : Str)]
def B_begin : Ss := (.cons (.ret (.tup (.cons (.op .mul (.tup (.cons (.con (.int (0))) .nil)) (.idx (.var 0) (.con (.int (0))))) (.cons (.op .mul (.tup (.cons (.con (.bl false)) .nil)) (.idx (.var 0) (.con (.int (1))))) (.cons (.con .non) .nil))))) .nil)
def Fbegin : Sem := run 1 1 B_begin
def N_number_of : List Str := [("counters" : Str), ("card" : Str), ("source" : Str)]
def B_number_of : Ss := (.cons (.ite (.op .eq (.var 2) (.con (.str "x"))) (.cons (.ret (.idx (.var 1) (.con (.int (3))))) .nil) .nil) (.cons (.ret (.ite (.op .eq (.var 2) (.con (.str "y"))) (.idx (.var 1) (.con (.int (4)))) (.idx (.var 0) (.var 2)))) .nil))
def Fnumber_of : Sem := run 3 3 B_number_of
def N_with_item : List Str := [("row" : Str), ("at" : Str), ("item" : Str)]
def B_with_item : Ss := (.cons (.ret (.op .add (.op .add (.slc (.var 0) .no (.yes (.var 1))) (.tup (.cons (.var 2) .nil))) (.slc (.var 0) (.yes (.op .add (.var 1) (.con (.int (1))))) .no))) .nil)
def Fwith_item : Sem := run 3 3 B_with_item
def N_is_done : List Str := [("switches" : Str), ("wire" : Str)]
def B_is_done : Ss := (.cons (.ret (.or_ (.op .is_ (.idx (.var 1) (.con (.int (1)))) (.con .non)) (.op .eq (.idx (.var 0) (.idx (.idx (.var 1) (.con (.int (1)))) (.con (.int (0))))) (.idx (.idx (.var 1) (.con (.int (1)))) (.con (.int (1))))))) .nil)
def Fis_done : Sem := run 2 2 B_is_done
def N_done : List Str := [("counters" : Str), ("switches" : Str), ("action" : Str), ("card" : Str), ("number" : Str), ("more" : Str)]
def B_done : Ss := (.cons (.ite (.op .eq (.idx (.var 2) (.con (.int (0)))) (.con (.str "clear"))) (.cons (.ret (.tup (.cons (.call Fwith_item (.cons (.var 0) (.cons (.idx (.var 2) (.con (.int (1)))) (.cons (.con (.int (0))) .nil)))) (.cons (.var 1) .nil)))) .nil) .nil) (.cons (.ite (.op .eq (.idx (.var 2) (.con (.int (0)))) (.con (.str "set"))) (.cons (.ret (.tup (.cons (.var 0) (.cons (.call Fwith_item (.cons (.var 1) (.cons (.idx (.var 2) (.con (.int (1)))) (.cons (.idx (.var 2) (.con (.int (2)))) .nil)))) .nil)))) .nil) .nil) (.cons (.set (.name 4) (.call Fnumber_of (.cons (.var 0) (.cons (.var 3) (.cons (.idx (.var 2) (.con (.int (1)))) .nil))))) (.cons (.set (.name 5) (.ite (.op .eq (.idx (.var 2) (.con (.int (0)))) (.con (.str "add"))) (.var 4) (.neg (.var 4)))) (.cons (.ret (.tup (.cons (.call Fwith_item (.cons (.var 0) (.cons (.idx (.var 2) (.con (.int (2)))) (.cons (.op .add (.idx (.var 0) (.idx (.var 2) (.con (.int (2))))) (.var 5)) .nil)))) (.cons (.var 1) .nil)))) .nil)))))
def Fdone : Sem := run 4 6 B_done
def N_passed : List Str := [("board" : Str), ("times" : Str), ("counters" : Str), ("switches" : Str), ("card" : Str), ("printed" : Str), ("index" : Str), ("wire" : Str), ("action" : Str), ("items" : Str), ("source" : Str)]
def B_passed : Ss := (.cons (.set (.name 5) (.tup .nil)) (.cons (.for_ (.pair (.name 6) (.name 7)) (.enum (.idx (.var 0) (.con (.int (2))))) (.cons (.ite (.and_ (.op .in_ (.idx (.var 7) (.con (.int (0)))) (.var 1)) (.call Fis_done (.cons (.var 3) (.cons (.var 7) .nil)))) (.cons (.set (.name 8) (.idx (.var 7) (.con (.int (2))))) (.cons (.ite (.op .eq (.idx (.var 8) (.con (.int (0)))) (.con (.str "print"))) (.cons (.set (.name 9) (.bi .tuple (.cons (.comp (.call Fnumber_of (.cons (.var 2) (.cons (.var 4) (.cons (.var 10) .nil)))) (.name 10) (.seq (.idx (.var 8) (.con (.int (1))))) (.con (.bl true)) [10]) .nil))) (.cons (.set (.name 5) (.op .add (.var 5) (.tup (.cons (.tup (.cons (.var 9) (.cons (.op .add (.slc (.var 4) .no (.yes (.con (.int (2))))) (.tup (.cons (.op .eq (.idx (.var 7) (.con (.int (0)))) (.con (.str "major"))) .nil))) (.cons (.var 6) .nil)))) .nil)))) .nil)) (.cons (.set (.pair (.name 2) (.name 3)) (.call Fdone (.cons (.var 2) (.cons (.var 3) (.cons (.var 8) (.cons (.var 4) .nil)))))) .nil)) .nil)) .nil) .nil)) (.cons (.ret (.tup (.cons (.var 2) (.cons (.var 3) (.cons (.var 5) .nil))))) .nil)))
def Fpassed : Sem := run 5 11 B_passed
def N_feed : List Str := [("board" : Str), ("stand" : Str), ("card" : Str), ("counters" : Str), ("switches" : Str), ("key" : Str), ("level" : Str), ("early" : Str), ("times" : Str), ("printed" : Str)]
def B_feed : Ss := (.cons (.set (.trip (.name 3) (.name 4) (.name 5)) (.var 1)) (.cons (.set (.name 6) (.ite (.op .is_ (.var 5) (.con .non)) (.con (.str "none")) (.call Fbreak_between (.cons (.var 5) (.cons (.slc (.var 2) .no (.yes (.con (.int (2))))) .nil))))) (.cons (.set (.name 7) (.tup .nil)) (.cons (.ite (.op .ne (.var 6) (.con (.str "none"))) (.cons (.set (.name 8) (.ite (.op .eq (.var 6) (.con (.str "major"))) (.tup (.cons (.con (.str "minor")) (.cons (.con (.str "major")) .nil))) (.tup (.cons (.con (.str "minor")) .nil)))) (.cons (.set (.trip (.name 3) (.name 4) (.name 7)) (.call Fpassed (.cons (.var 0) (.cons (.var 8) (.cons (.var 3) (.cons (.var 4) (.cons (.var 5) .nil))))))) .nil)) .nil) (.cons (.set (.name 8) (.ite (.idx (.var 2) (.con (.int (2)))) (.tup (.cons (.con (.str "card")) (.cons (.con (.str "hole")) .nil))) (.tup (.cons (.con (.str "card")) (.cons (.con (.str "plain")) .nil))))) (.cons (.set (.trip (.name 3) (.name 4) (.name 9)) (.call Fpassed (.cons (.var 0) (.cons (.var 8) (.cons (.var 3) (.cons (.var 4) (.cons (.var 2) .nil))))))) (.cons (.ret (.tup (.cons (.tup (.cons (.var 3) (.cons (.var 4) (.cons (.slc (.var 2) .no (.yes (.con (.int (2))))) .nil)))) (.cons (.op .add (.var 7) (.var 9)) .nil)))) .nil)))))))
def Ffeed : Sem := run 3 10 B_feed
def N_finish : List Str := [("board" : Str), ("stand" : Str), ("counters" : Str), ("switches" : Str), ("key" : Str), ("printed" : Str)]
def B_finish : Ss := (.cons (.set (.trip (.name 2) (.name 3) (.name 4)) (.var 1)) (.cons (.ite (.op .is_ (.var 4) (.con .non)) (.cons (.ret (.tup (.cons (.var 1) (.cons (.tup .nil) .nil)))) .nil) .nil) (.cons (.set (.trip (.name 2) (.name 3) (.name 5)) (.call Fpassed (.cons (.var 0) (.cons (.tup (.cons (.con (.str "minor")) (.cons (.con (.str "major")) .nil))) (.cons (.var 2) (.cons (.var 3) (.cons (.var 4) .nil))))))) (.cons (.ret (.tup (.cons (.tup (.cons (.var 2) (.cons (.var 3) (.cons (.con .non) .nil)))) (.cons (.var 5) .nil)))) .nil))))
def Ffinish : Sem := run 2 6 B_finish
def B_all_fed : Ss := (.cons (.set (.name 3) (.tup .nil)) (.cons (.for_ (.name 4) (.seq (.var 2)) (.cons (.set (.pair (.name 1) (.name 5)) (.call Ffeed (.cons (.var 0) (.cons (.var 1) (.cons (.var 4) .nil))))) (.cons (.set (.name 3) (.op .add (.var 3) (.var 5))) .nil))) (.cons (.ret (.tup (.cons (.var 1) (.cons (.var 3) .nil)))) .nil)))
def Fall_fed : Sem := run 3 6 B_all_fed
def B_cards_of : Ss := (.cons (.ret (.bi .tuple (.cons (.comp (.op .add (.var 2) (.var 1)) (.trip (.name 1) (.name 2) (.name 3)) (.seq (.var 0)) (.op .eq (.bi .len (.cons (.var 1) .nil)) (.con (.int (2)))) [1, 2, 3]) .nil))) .nil)
def Fcards_of : Sem := run 1 4 B_cards_of
def B_row_begin : Ss := (.cons (.ret (.bi .tuple (.cons (.comp (.call Fbegin (.cons (.var 1) .nil)) (.name 1) (.seq (.var 0)) (.con (.bl true)) [1]) .nil))) .nil)
def Frow_begin : Sem := run 1 2 B_row_begin
def B_row_feed : Ss := (.cons (.set (.pair (.name 3) (.name 4)) (.call Ffeed (.cons (.idx (.var 0) (.con (.int (0)))) (.cons (.idx (.var 1) (.con (.int (0)))) (.cons (.var 2) .nil))))) (.cons (.ite (.op .eq (.bi .len (.cons (.var 0) .nil)) (.con (.int (1)))) (.cons (.ret (.tup (.cons (.tup (.cons (.var 3) .nil)) (.cons (.var 4) .nil)))) .nil) .nil) (.cons (.set (.pair (.name 5) (.name 4)) (.call Fall_fed (.cons (.idx (.var 0) (.con (.int (1)))) (.cons (.idx (.var 1) (.con (.int (1)))) (.cons (.call Fcards_of (.cons (.var 4) .nil)) .nil))))) (.cons (.ret (.tup (.cons (.tup (.cons (.var 3) (.cons (.var 5) .nil))) (.cons (.var 4) .nil)))) .nil))))
def Frow_feed : Sem := run 3 6 B_row_feed
def B_row_end : Ss := (.cons (.set (.pair (.name 2) (.name 3)) (.call Ffinish (.cons (.idx (.var 0) (.con (.int (0)))) (.cons (.idx (.var 1) (.con (.int (0)))) .nil)))) (.cons (.ite (.op .eq (.bi .len (.cons (.var 0) .nil)) (.con (.int (1)))) (.cons (.ret (.var 3)) .nil) .nil) (.cons (.set (.pair (.name 4) (.name 5)) (.call Fall_fed (.cons (.idx (.var 0) (.con (.int (1)))) (.cons (.idx (.var 1) (.con (.int (1)))) (.cons (.call Fcards_of (.cons (.var 3) .nil)) .nil))))) (.cons (.ret (.op .add (.var 5) (.idx (.call Ffinish (.cons (.idx (.var 0) (.con (.int (1)))) (.cons (.var 4) .nil))) (.con (.int (1)))))) .nil))))
def Frow_end : Sem := run 2 6 B_row_end
def B_all_printed : Ss := (.cons (.set (.pair (.name 2) (.name 3)) (.tup (.cons (.call Frow_begin (.cons (.var 0) .nil)) (.cons (.tup .nil) .nil)))) (.cons (.for_ (.name 4) (.seq (.var 1)) (.cons (.set (.pair (.name 2) (.name 5)) (.call Frow_feed (.cons (.var 0) (.cons (.var 2) (.cons (.var 4) .nil))))) (.cons (.set (.name 3) (.op .add (.var 3) (.var 5))) .nil))) (.cons (.ret (.op .add (.var 3) (.call Frow_end (.cons (.var 0) (.cons (.var 2) .nil))))) .nil)))
def Fall_printed : Sem := run 2 6 B_all_printed
def B__law_source : Ss := (.cons (.ite (.bi .isi (.cons (.var 2) (.cons (.con (.ty "str")) .nil))) (.cons (.ret (.ite (.op .eq (.var 2) (.con (.str "x"))) (.idx (.var 1) (.con (.int (3)))) (.idx (.var 1) (.con (.int (4)))))) .nil) .nil) (.cons (.ret (.idx (.idx (.var 0) (.con (.str "counters"))) (.var 2))) .nil))
def F_law_source : Sem := run 3 3 B__law_source
def B__law_go : Ss := (.cons (.lin 3 .nil) (.cons (.for_ (.trip (.name 4) (.name 5) (.name 6)) (.seq (.idx (.idx (.var 0) (.con (.str "board"))) (.con (.int (2))))) (.cons (.set (.name 7) (.and_ (.op .isn (.var 5) (.con .non)) (.op .ne (.idx (.idx (.var 0) (.con (.str "switches"))) (.idx (.var 5) (.con (.int (0))))) (.idx (.var 5) (.con (.int (1))))))) (.cons (.ite (.or_ (.op .nin (.var 4) (.var 1)) (.var 7)) (.cons .cont .nil) .nil) (.cons (.ite (.op .eq (.idx (.var 6) (.con (.int (0)))) (.con (.str "print"))) (.cons (.set (.name 8) (.bi .tuple (.cons (.comp (.call F_law_source (.cons (.var 0) (.cons (.var 2) (.cons (.var 10) .nil)))) (.name 10) (.seq (.idx (.var 6) (.con (.int (1))))) (.con (.bl true)) [10]) .nil))) (.cons (.app 3 (.tup (.cons (.var 8) (.cons (.op .add (.slc (.var 2) .no (.yes (.con (.int (2))))) (.tup (.cons (.op .eq (.var 4) (.con (.str "major"))) .nil))) .nil)))) .nil)) (.cons (.ite (.op .eq (.idx (.var 6) (.con (.int (0)))) (.con (.str "set"))) (.cons (.put (.idx (.var 0) (.con (.str "switches"))) (.idx (.var 6) (.con (.int (1)))) (.idx (.var 6) (.con (.int (2))))) .nil) (.cons (.ite (.op .eq (.idx (.var 6) (.con (.int (0)))) (.con (.str "clear"))) (.cons (.put (.idx (.var 0) (.con (.str "counters"))) (.idx (.var 6) (.con (.int (1)))) (.con (.int (0)))) .nil) (.cons (.set (.name 9) (.call F_law_source (.cons (.var 0) (.cons (.var 2) (.cons (.idx (.var 6) (.con (.int (1)))) .nil))))) (.cons (.set (.name 9) (.ite (.op .eq (.idx (.var 6) (.con (.int (0)))) (.con (.str "add"))) (.var 9) (.neg (.var 9)))) (.cons (.put (.idx (.var 0) (.con (.str "counters"))) (.idx (.var 6) (.con (.int (2)))) (.op .add (.idx (.idx (.var 0) (.con (.str "counters"))) (.idx (.var 6) (.con (.int (2))))) (.var 9))) .nil)))) .nil)) .nil)) .nil)))) (.cons (.still 3) (.cons (.ret (.var 3)) .nil))))
def F_law_go : Sem := run 3 11 B__law_go
def B__law_last : Ss := (.cons (.set (.name 1) (.idx (.var 0) (.con (.str "key")))) (.cons (.put (.var 0) (.con (.str "key")) (.con .non)) (.cons (.ret (.ite (.op .isn (.var 1) (.con .non)) (.call F_law_go (.cons (.var 0) (.cons (.lst (.cons (.con (.str "minor")) (.cons (.con (.str "major")) .nil))) (.cons (.op .add (.var 1) (.tup (.cons (.con (.bl false)) (.cons (.con (.int (0))) (.cons (.con (.int (0))) .nil))))) .nil)))) (.lst .nil))) .nil)))
def F_law_last : Sem := run 1 2 B__law_last
def N_shortest : List Str := [("row" : Str), ("common" : Str), ("part" : Str), ("one" : Str), ("other" : Str), ("first" : Str)]
def B_shortest : Ss := (.cons (.set (.name 1) (.con (.int (0)))) (.cons (.for_ (.name 2) (.seq (.var 0)) (.cons (.set (.pair (.name 3) (.name 4)) (.tup (.cons (.var 1) (.cons (.bi .abs (.cons (.var 2) .nil)) .nil)))) (.cons (.while_ fuelW (.op (.cm .gt) (.var 4) (.con (.int (0)))) (.cons (.set (.pair (.name 3) (.name 4)) (.tup (.cons (.var 4) (.cons (.op .mod (.var 3) (.var 4)) .nil)))) .nil)) (.cons (.set (.name 1) (.var 3)) .nil)))) (.cons (.set (.name 5) (.comp (.var 2) (.name 2) (.seq (.var 0)) (.op .ne (.var 2) (.con (.int (0)))) [2])) (.cons (.ite (.op .eq (.var 5) (.lst .nil)) (.cons (.ret (.bi .tuple (.cons (.var 0) .nil))) .nil) .nil) (.cons (.set (.name 1) (.ite (.op (.cm .lt) (.idx (.var 5) (.con (.int (0)))) (.con (.int (0)))) (.neg (.var 1)) (.var 1))) (.cons (.ret (.bi .tuple (.cons (.comp (.op .fdiv (.var 2) (.var 1)) (.name 2) (.seq (.var 0)) (.con (.bl true)) [2]) .nil))) .nil))))))
def Fshortest : Sem := run 1 6 B_shortest
def N_place_of : List Str := [("row" : Str), ("some" : Str), ("at" : Str)]
def B_place_of : Ss := (.cons (.set (.name 1) (.comp (.var 2) (.name 2) (.rng (.bi .len (.cons (.var 0) .nil))) (.op .ne (.idx (.var 0) (.var 2)) (.con (.int (0)))) [2])) (.cons (.ret (.ite (.op .ne (.var 1) (.lst .nil)) (.idx (.var 1) (.con (.int (0)))) (.con .non))) .nil))
def Fplace_of : Sem := run 1 3 B_place_of
def N_without : List Str := [("row" : Str), ("other" : Str), ("at" : Str), ("mine" : Str), ("yours" : Str)]
def B_without : Ss := (.cons (.set (.name 2) (.call Fplace_of (.cons (.var 1) .nil))) (.cons (.ite (.op .eq (.idx (.var 0) (.var 2)) (.con (.int (0)))) (.cons (.ret (.bi .tuple (.cons (.var 0) .nil))) .nil) .nil) (.cons (.ret (.call Fshortest (.cons (.comp (.op .sub (.op .mul (.idx (.var 1) (.var 2)) (.var 3)) (.op .mul (.idx (.var 0) (.var 2)) (.var 4))) (.pair (.name 3) (.name 4)) (.zip (.var 0) (.var 1)) (.con (.bl true)) [3, 4]) .nil))) .nil)))
def Fwithout : Sem := run 2 5 B_without
def N_rest_of : List Str := [("span" : Str), ("row" : Str), ("other" : Str)]
def B_rest_of : Ss := (.cons (.for_ (.name 2) (.seq (.var 0)) (.cons (.set (.name 1) (.call Fwithout (.cons (.var 1) (.cons (.var 2) .nil)))) .nil)) (.cons (.ret (.bi .tuple (.cons (.var 1) .nil))) .nil))
def Frest_of : Sem := run 2 3 B_rest_of
def N_with_row : List Str := [("span" : Str), ("row" : Str), ("rest" : Str)]
def B_with_row : Ss := (.cons (.set (.name 2) (.call Frest_of (.cons (.var 0) (.cons (.var 1) .nil)))) (.cons (.ite (.op .is_ (.call Fplace_of (.cons (.var 2) .nil)) (.con .non)) (.cons (.ret (.var 0)) .nil) .nil) (.cons (.ret (.op .add (.var 0) (.tup (.cons (.call Fshortest (.cons (.var 2) .nil)) .nil)))) .nil)))
def Fwith_row : Sem := run 2 3 B_with_row
def N_next_cards : List Str := [("deck" : Str), ("keys" : Str), ("major" : Str), ("minor" : Str), ("key" : Str), ("hole" : Str), ("pair" : Str)]
def B_next_cards : Ss := (.cons (.set (.name 1) (.lst (.cons (.tup (.cons (.con (.int (0))) (.cons (.con (.int (0))) .nil))) .nil))) (.cons (.ite (.op .ne (.var 0) (.tup .nil)) (.cons (.set (.pair (.name 2) (.name 3)) (.slc (.idx (.var 0) (.neg (.con (.int (1))))) .no (.yes (.con (.int (2)))))) (.cons (.set (.name 1) (.lst (.cons (.tup (.cons (.var 2) (.cons (.var 3) .nil))) (.cons (.tup (.cons (.var 2) (.cons (.op .add (.var 3) (.con (.int (1)))) .nil))) (.cons (.tup (.cons (.op .add (.var 2) (.con (.int (1)))) (.cons (.con (.int (0))) .nil))) .nil))))) .nil)) .nil) (.cons (.ret (.compn (.op .add (.op .add (.var 4) (.tup (.cons (.var 5) .nil))) (.var 6)) (.name 4) (.seq (.var 1)) (.con (.bl true)) (.cons (.name 5) (.seq (.tup (.cons (.con (.bl false)) (.cons (.con (.bl true)) .nil)))) (.con (.bl true)) [5, 6] (.cons (.name 6) (.seq (.con (.tup [(.tup [(.int (0)), (.int (0))]), (.tup [(.int (1)), (.int (0))]), (.tup [(.int (0)), (.int (1))])]))) (.con (.bl true)) [6] .nil)) [4, 5, 6])) .nil)))
def Fnext_cards : Sem := run 1 7 B_next_cards
def N_need_wire : List Str := [("board" : Str), ("index" : Str)]
def B_need_wire : Ss := (.cons (.ite (.not_ (.call Fis_whole (.cons (.var 1) (.cons (.con (.int (0))) (.cons (.op .sub (.bi .len (.cons (.idx (.var 0) (.con (.int (2)))) .nil)) (.con (.int (1)))) .nil))))) (.cons (.raise "InvalidIndex") .nil) .nil) .nil)
def Fneed_wire : Sem := run 2 2 B_need_wire
def N_plain : List Str := [("span" : Str), ("rows" : Str), ("found" : Str), ("at" : Str), ("place" : Str), ("row" : Str), ("later" : Str), ("other" : Str)]
def B_plain : Ss := (.cons .bot (.cons (.set (.name 2) (.lst .nil)) (.cons (.for_ (.pair (.name 3) (.pair (.name 4) (.name 5))) (.enum (.var 1)) (.cons (.for_ (.pair (.name 6) (.name 7)) (.seq (.slc (.var 1) (.yes (.op .add (.var 3) (.con (.int (1))))) .no)) (.cons (.set (.name 5) (.call Fwithout (.cons (.var 5) (.cons (.var 7) .nil)))) .nil)) (.cons (.set (.name 2) (.op .add (.var 2) (.lst (.cons (.call Fshortest (.cons (.var 5) .nil)) .nil)))) .nil))) (.cons (.ret (.var 2)) .nil))))
def Fplain : Sem := run 1 8 B_plain
def N_across : List Str := [("span" : Str), ("many" : Str), ("rows" : Str), ("places" : Str), ("found" : Str), ("free" : Str), ("size" : Str), ("row" : Str), ("some" : Str), ("at" : Str)]
def B_across : Ss := (.cons (.set (.name 2) (.call Fplain (.cons (.var 0) .nil))) (.cons (.set (.name 3) (.comp (.call Fplace_of (.cons (.var 7) .nil)) (.name 7) (.seq (.var 2)) (.con (.bl true)) [7])) (.cons (.set (.name 4) (.tup .nil)) (.cons (.for_ (.name 5) (.seq (.comp (.var 9) (.name 9) (.rng (.var 1)) (.op .nin (.var 9) (.var 3)) [9])) (.cons (.set (.name 6) (.con (.int (1)))) (.cons (.for_ (.name 7) (.seq (.var 2)) (.cons (.set (.name 6) (.op .mul (.var 6) (.idx (.var 7) (.call Fplace_of (.cons (.var 7) .nil))))) .nil)) (.cons (.set (.name 8) (.mrep (.con (.int (0))) (.var 1))) (.cons (.put (.var 8) (.var 5) (.var 6)) (.cons (.for_ (.name 7) (.seq (.var 2)) (.cons (.put (.var 8) (.call Fplace_of (.cons (.var 7) .nil)) (.op .mul (.neg (.idx (.var 7) (.var 5))) (.op .fdiv (.var 6) (.idx (.var 7) (.call Fplace_of (.cons (.var 7) .nil)))))) .nil)) (.cons (.set (.name 4) (.call Fwith_row (.cons (.var 4) (.cons (.bi .tuple (.cons (.var 8) .nil)) .nil)))) .nil))))))) (.cons (.ret (.var 4)) .nil)))))
def Facross : Sem := run 2 10 B_across
def N_items_of : List Str := [("printed" : Str), ("index" : Str), ("items" : Str), ("head" : Str), ("number" : Str)]
def B_items_of : Ss := (.cons (.ret (.comp (.var 2) (.trip (.name 2) (.name 3) (.name 4)) (.seq (.var 0)) (.op .eq (.var 4) (.var 1)) [2, 3, 4])) .nil)
def Fitems_of : Sem := run 2 5 B_items_of
def N_is_new__2 : List Str := [("spans" : Str), ("stand" : Str), ("order" : Str)]
def B_is_new__2 : Ss := (.cons (.set (.name 2) (.idx (.var 1) (.con (.int (1))))) (.cons (.ite (.op .nin (.var 2) (.var 0)) (.cons (.put (.var 0) (.var 2) (.call Fwith_row (.cons (.tup .nil) (.cons (.idx (.var 1) (.con (.int (0)))) .nil)))) (.cons (.ret (.con (.bl true))) .nil)) .nil) (.cons (.ite (.op .is_ (.call Fplace_of (.cons (.call Frest_of (.cons (.idx (.var 0) (.var 2)) (.cons (.idx (.var 1) (.con (.int (0)))) .nil))) .nil)) (.con .non)) (.cons (.ret (.con (.bl false))) .nil) .nil) (.cons (.put (.var 0) (.var 2) (.call Fwith_row (.cons (.idx (.var 0) (.var 2)) (.cons (.idx (.var 1) (.con (.int (0)))) .nil)))) (.cons (.ret (.con (.bl true))) .nil)))))
def Fis_new__2 : Sem := run 2 3 B_is_new__2
def N_all_items : List Str := [("board" : Str), ("index" : Str), ("line" : Str), ("spans" : Str), ("come" : Str), ("found" : Str), ("later" : Str), ("deck" : Str), ("stand" : Str), ("card" : Str), ("new" : Str), ("printed" : Str), ("items" : Str)]
def B_all_items : Ss := (.cons (.set (.many [2, 3, 4, 5]) (.tup (.cons (.lst (.cons (.tup (.cons (.tup .nil) (.cons (.call Fbegin (.cons (.var 0) .nil)) .nil))) .nil)) (.cons .dnew (.cons (.con (.bl false)) (.cons (.tup .nil) .nil)))))) (.cons (.while_ fuelW (.op .ne (.var 2) (.lst .nil)) (.cons (.set (.name 6) (.lst .nil)) (.cons (.for_ (.pair (.name 7) (.name 8)) (.seq (.var 2)) (.cons (.for_ (.name 9) (.seq (.call Fnext_cards (.cons (.var 7) .nil))) (.cons (.set (.pair (.name 10) (.name 11)) (.call Ffeed (.cons (.var 0) (.cons (.var 8) (.cons (.var 9) .nil))))) (.cons (.for_ (.name 12) (.seq (.call Fitems_of (.cons (.op .add (.var 11) (.idx (.call Ffinish (.cons (.var 0) (.cons (.var 10) .nil))) (.con (.int (1))))) (.cons (.var 1) .nil)))) (.cons (.set (.pair (.name 4) (.name 5)) (.tup (.cons (.con (.bl true)) (.cons (.call Fwith_row (.cons (.var 5) (.cons (.var 12) .nil))) .nil)))) .nil)) (.cons (.ite (.call Fis_new__2 (.cons (.var 3) (.cons (.var 10) .nil))) (.cons (.set (.name 6) (.op .add (.var 6) (.lst (.cons (.tup (.cons (.op .add (.var 7) (.tup (.cons (.var 9) .nil))) (.cons (.var 10) .nil))) .nil)))) .nil) .nil) .nil)))) .nil)) (.cons (.set (.name 2) (.var 6)) .nil)))) (.cons (.ret (.tup (.cons (.var 4) (.cons (.var 5) .nil)))) .nil)))
def Fall_items : Sem := run 2 13 B_all_items
def N_need_print : List Str := [("board" : Str), ("index" : Str)]
def B_need_print : Ss := (.cons (.expr (.call Fneed_board (.cons (.var 0) .nil))) (.cons (.expr (.call Fneed_wire (.cons (.var 0) (.cons (.var 1) .nil)))) (.cons (.ite (.op .ne (.idx (.idx (.idx (.idx (.var 0) (.con (.int (2)))) (.var 1)) (.con (.int (2)))) (.con (.int (0)))) (.con (.str "print"))) (.cons (.raise "InvalidIndex") .nil) .nil) .nil)))
def Fneed_print : Sem := run 2 2 B_need_print
def N_comes : List Str := [("board" : Str), ("index" : Str)]
def B_comes : Ss := (.cons (.expr (.call Fneed_print (.cons (.var 0) (.cons (.var 1) .nil)))) (.cons (.ret (.idx (.call Fall_items (.cons (.var 0) (.cons (.var 1) .nil))) (.con (.int (0))))) .nil))
def Fcomes : Sem := run 2 2 B_comes
def N_relations : List Str := [("board" : Str), ("index" : Str), ("many" : Str)]
def B_relations : Ss := (.cons (.expr (.call Fneed_print (.cons (.var 0) (.cons (.var 1) .nil)))) (.cons (.set (.name 2) (.bi .len (.cons (.idx (.idx (.idx (.idx (.var 0) (.con (.int (2)))) (.var 1)) (.con (.int (2)))) (.con (.int (1)))) .nil))) (.cons (.ret (.call Fplain (.cons (.call Facross (.cons (.idx (.call Fall_items (.cons (.var 0) (.cons (.var 1) .nil))) (.con (.int (1)))) (.cons (.var 2) .nil))) .nil))) .nil)))
def Frelations : Sem := run 2 3 B_relations
def N_holds : List Str := [("board" : Str), ("index" : Str), ("factors" : Str), ("many" : Str), ("span" : Str), ("factor" : Str), ("row" : Str), ("one" : Str), ("two" : Str)]
def B_holds : Ss := (.cons (.expr (.call Fneed_print (.cons (.var 0) (.cons (.var 1) .nil)))) (.cons (.set (.name 3) (.bi .len (.cons (.idx (.idx (.idx (.idx (.var 0) (.con (.int (2)))) (.var 1)) (.con (.int (2)))) (.con (.int (1)))) .nil))) (.cons (.ite (.or_ (.not_ (.bi .isi (.cons (.var 2) (.cons (.con (.ty "tuple")) .nil)))) (.op .ne (.bi .len (.cons (.var 2) .nil)) (.var 3))) (.cons (.raise "InvalidFactors") .nil) .nil) (.cons (.ite (.op .ne (.comp (.var 5) (.name 5) (.seq (.var 2)) (.not_ (.call Fis_whole (.cons (.var 5) (.cons (.neg (.con (.int (1000000000000000000000000000000)))) (.cons (.con (.int (1000000000000000000000000000000))) .nil))))) [5]) (.lst .nil)) (.cons (.raise "InvalidFactors") .nil) .nil) (.cons (.set (.name 4) (.idx (.call Fall_items (.cons (.var 0) (.cons (.var 1) .nil))) (.con (.int (1))))) (.cons (.ret (.op .eq (.comp (.var 6) (.name 6) (.seq (.var 4)) (.op .ne (.bi .sum (.cons (.comp (.op .mul (.var 7) (.var 8)) (.pair (.name 7) (.name 8)) (.zip (.var 6) (.var 2)) (.con (.bl true)) [7, 8]) .nil)) (.con (.int (0)))) [6]) (.lst .nil))) .nil))))))
def Fholds : Sem := run 3 9 B_holds
end Pg
set_option Elab.async false
set_option linter.all false
set_option maxRecDepth 100000
/-! Evl: running the small language step by step (for simp: what comes later stands in named functions that are not looked into ahead of time). -/
namespace Ev
open PySem L2 Mi
/-- as in Mi, but not seen through -/
def bindR {α β : Type} (x : RM α) (f : α → List Mo → RM β) : RM β := Mi.bindR x f
def thenE {α : Type} (x : RM α) (δ : List Sl) (f : α → List Mo → SM) : SM := Mi.thenE x δ f
def thenS (x : SM) (f : List Sl → List Mo → SM) : SM := Mi.thenS x f
/-- a step that simp writes down (and the kernel does not look for) -/
theorem nr {α : Sort u} {a b : α} (h : a = b) : a = b := h
section
variable {α β : Type} {a : α} {e : Ex} {μ : List Mo} {δ : List Sl} {f : α → List Mo → RM β} {g : α → List Mo → SM} {h : List Sl → List Mo → SM} {d : D}
@[simp] theorem bR_ok : bindR (some (.ok a, μ)) f = f a μ := nr rfl
@[simp] theorem bR_er : bindR (some (.error e, μ)) f = some (.error e, μ) := nr rfl
@[simp] theorem tE_ok : thenE (some (.ok a, μ)) δ g = g a μ := nr rfl
@[simp] theorem tE_er {g : α → List Mo → SM} : thenE (some (.error e, μ)) δ g = some (.ex e, δ, μ) := nr rfl
@[simp] theorem tS_nx : thenS (some (.nx, δ, μ)) h = h δ μ := nr rfl
@[simp] theorem tS_rt : thenS (some (.rt d, δ, μ)) h = some (.rt d, δ, μ) := nr rfl
@[simp] theorem tS_ex : thenS (some (.ex e, δ, μ)) h = some (.ex e, δ, μ) := nr rfl
@[simp] theorem tS_ct : thenS (some (.ct, δ, μ)) h = some (.ct, δ, μ) := nr rfl
@[simp] theorem tS_bk : thenS (some (.bk, δ, μ)) h = some (.bk, δ, μ) := nr rfl
@[simp] theorem rR : retR a μ = some (.ok a, μ) := nr rfl
@[simp] theorem oR : optR (some a) μ = some (.ok a, μ) := nr rfl
end
/-- a def's end -/
def fin : SM → RM D
  | some (.nx, _, μ) => some (.ok .non, μ)
  | some (.rt d, _, μ) => some (.ok d, μ)
  | some (.ex e, _, μ) => some (.error e, μ)
  | _ => none
@[simp] theorem fin_nx {δ : List Sl} {μ : List Mo} : fin (some (.nx, δ, μ)) = some (.ok .non, μ) := nr rfl
@[simp] theorem fin_rt {d : D} {δ : List Sl} {μ : List Mo} : fin (some (.rt d, δ, μ)) = some (.ok d, μ) := nr rfl
@[simp] theorem fin_ex {e : Ex} {δ : List Sl} {μ : List Mo} : fin (some (.ex e, δ, μ)) = some (.error e, μ) := nr rfl
theorem go {np ns : Nat} {b : Ss} {xs : List D} {μ : List Mo} (h : xs.length = np) : Mi.run np ns b xs μ = fin (exs b (xs.map .d ++ List.replicate (ns - np) .un) μ) := by
  unfold Mi.run
  rw [if_pos h]
  generalize exs b (xs.map .d ++ List.replicate (ns - np) .un) μ = r
  rcases r with _ | ⟨fl, _, _⟩
  · rfl
  · cases fl <;> rfl
theorem bx {α β : Type} {x : RM α} {f g : α → List Mo → RM β} (h : ∀ a μ, f a μ = g a μ) : bindR x f = bindR x g := by rw [show f = g from funext fun a => funext fun μ => h a μ]
theorem tx {α : Type} {x : RM α} {δ : List Sl} {f g : α → List Mo → SM} (h : ∀ a μ, f a μ = g a μ) : thenE x δ f = thenE x δ g := by rw [show f = g from funext fun a => funext fun μ => h a μ]
/-! ### what comes behind a part -/
def vr : Option Sl → List Mo → RM D
  | some (.d x), μ => some (.ok x, μ)
  | _, _ => none
def k2 (o : Op) (x y : D) (μ : List Mo) : RM D := optR (o.do μ x y) μ
def k1 (o : Op) (b : E) (δ : List Sl) (x : D) (μ : List Mo) : RM D := bindR (ev b δ μ) (k2 o x)
def kneg : D → List Mo → RM D
  | .int i, μ => some (.ok (.int (-i)), μ)
  | _, _ => none
def knot : D → List Mo → RM D
  | .bl b, μ => some (.ok (.bl (!b)), μ)
  | _, _ => none
def knott (x : D) (μ : List Mo) : RM D := optR ((truD x).map fun b => .bl (!b)) μ
def kand (b : E) (δ : List Sl) : D → List Mo → RM D
  | .bl true, μ => ev b δ μ
  | .bl false, μ => some (.ok (.bl false), μ)
  | _, _ => none
def kor (b : E) (δ : List Sl) : D → List Mo → RM D
  | .bl true, μ => some (.ok (.bl true), μ)
  | .bl false, μ => ev b δ μ
  | _, _ => none
def kite (a b : E) (δ : List Sl) : D → List Mo → RM D
  | .bl true, μ => ev a δ μ
  | .bl false, μ => ev b δ μ
  | _, _ => none
def kc3 (o : Op) (c : E) (δ : List Sl) (y : D) : D → List Mo → RM D
  | .bl true, μ => bindR (ev c δ μ) (k2 o y)
  | .bl false, μ => some (.ok (.bl false), μ)
  | _, _ => none
def kc2 (o o' : Op) (c : E) (δ : List Sl) (x y : D) (μ : List Mo) : RM D := bindR (optR (o.do μ x y) μ) (kc3 o' c δ y)
def kc1 (o o' : Op) (b c : E) (δ : List Sl) (x : D) (μ : List Mo) : RM D := bindR (ev b δ μ) (kc2 o o' c δ x)
def ki2 (x y : D) (μ : List Mo) : RM D := optR (ixD μ x y) μ
def ki1 (b : E) (δ : List Sl) (x : D) (μ : List Mo) : RM D := bindR (ev b δ μ) (ki2 x)
def kl (xs : List D) : D → List Mo → RM D
  | .int j, μ => optR (L2.atI xs j) μ
  | _, _ => none
def kl0 (b : E) (δ : List Sl) (μ : List Mo) : Option Sl → RM D
  | some (.lin xs) => bindR (ev b δ μ) (kl xs)
  | _ => none
def ks3 (x : D) (l h : Option Int) (μ : List Mo) : RM D := optR (slD μ x l h) μ
def ks2 (hi : Eo) (δ : List Sl) (x : D) (l : Option Int) (μ : List Mo) : RM D := bindR (evo hi δ μ) (ks3 x l)
def ks1 (lo hi : Eo) (δ : List Sl) (x : D) (μ : List Mo) : RM D := bindR (evo lo δ μ) (ks2 hi δ x)
def krev (x : D) (μ : List Mo) : RM D := optR (revD μ x) μ
def ktup (xs : List D) (μ : List Mo) : RM D := if xs.length ≤ sizeLine then some (.ok (.tup xs), μ) else none
def klst (xs : List D) (μ : List Mo) : RM D := if xs.length ≤ sizeLine then some (.ok (.lst xs), μ) else none
def kmlst (xs : List D) (μ : List Mo) : RM D := if xs.length ≤ sizeLine then some (.ok (.obj μ.length), μ ++ [.lst xs]) else none
def kb (f : Bi) (xs : List D) (μ : List Mo) : RM D := optR (f.do μ xs) μ
def kcomp (elt : E) (tg : Tg) (cond : E) (own : List Nat) (δ : List Sl) (xs : List D) (μ : List Mo) : RM D := compL tg (ev cond) (ev elt) (wipeS δ own) xs [] μ
def klr : D → List Mo → RM D
  | .int j, μ => if (decide (-(2 ^ 62) ≤ j) && decide (j ≤ 16777216)) = true then some (.ok (.lst (rgD 0 j)), μ) else none
  | _, _ => none
def kerr (nms : List (Str × Str)) : RM D → RM D
  | some (.ok _, μ) => some (.ok (.str ""), μ)
  | some (.error (c, none), μ) => optR ((nms.lookup c).map .str) μ
  | _ => none
def km2 (f : Bi) (z : Str) (xs : List D) (μ : List Mo) : RM D := optR (f.do μ (.str z :: xs)) μ
def km1 (f : Bi) (es : Es) (δ : List Sl) : D → List Mo → RM D
  | .str z, μ => bindR (evs es δ μ) (km2 f z)
  | _, _ => none
def kmr2 (d : D) : D → List Mo → RM D
  | .int j, μ => if (decide (-(2 ^ 63) ≤ j) && decide (j < 2 ^ 63) && decide (j.toNat ≤ sizeLine)) = true then some (.ok (.obj μ.length), μ ++ [.lst (List.replicate j.toNat d)]) else none
  | _, _ => none
def kmr1 (k : E) (δ : List Sl) (d : D) (μ : List Mo) : RM D := bindR (ev k δ μ) (kmr2 d)
def kdct (ks : List Str) (xs : List D) (μ : List Mo) : RM D := if (decide (ks.length = xs.length) && decide (ks.length ≤ 15) && decide ks.Nodup && !ks.isEmpty) = true then some (.ok (.obj μ.length), μ ++ [.dct (ks.zip xs)]) else none
def kes2 (x : D) (xs : List D) (μ : List Mo) : RM (List D) := some (.ok (x :: xs), μ)
def kes (es : Es) (δ : List Sl) (x : D) (μ : List Mo) : RM (List D) := bindR (evs es δ μ) (kes2 x)
def keo : D → List Mo → RM (Option Int)
  | .int i, μ => some (.ok (some i), μ)
  | _, _ => none
def kseq (x : D) (μ : List Mo) : RM (List D) := optR (seqD [] x) μ
def krng : D → List Mo → RM (List D)
  | .int j, μ => if rgOk 0 j = true then some (.ok (rgD 0 j), μ) else none
  | _, _ => none
def krg2 : D → D → List Mo → RM (List D)
  | .int i, .int j, μ => if rgOk i j = true then some (.ok (rgD i j), μ) else none
  | _, _, _ => none
def krg1 (b : E) (δ : List Sl) (x : D) (μ : List Mo) : RM (List D) := bindR (ev b δ μ) (krg2 x)
def kenum (x : D) (μ : List Mo) : RM (List D) := optR (enumK x) μ
def kzip2 (x y : D) (μ : List Mo) : RM (List D) := optR (zipK x y) μ
def kzip1 (b : E) (δ : List Sl) (x : D) (μ : List Mo) : RM (List D) := bindR (ev b δ μ) (kzip2 x)
def nxt (δ : Option (List Sl)) (μ : List Mo) : SM := δ.bind fun δ => some (.nx, δ, μ)
def kexp (δ : List Sl) (_ : D) (μ : List Mo) : SM := some (.nx, δ, μ)
def kset (t : Tg) (δ : List Sl) (x : D) (μ : List Mo) : SM := nxt (t.put x δ) μ
def kret (δ : List Sl) (x : D) (μ : List Mo) : SM := some (.rt x, δ, μ)
def kif (a b : Ss) (δ : List Sl) : D → List Mo → SM
  | .bl true, μ => exs a δ μ
  | .bl false, μ => exs b δ μ
  | _, _ => none
def kfor (t : Tg) (body : Ss) (δ : List Sl) (xs : List D) (μ : List Mo) : SM := forL t (exs body) xs δ μ
def nxm (δ : List Sl) (μ : Option (List Mo)) : SM := μ.bind fun μ => some (.nx, δ, μ)
def kp3 (δ : List Sl) (v x k : D) (μ : List Mo) : SM := nxm δ (putD μ x k v)
def kp2 (i : E) (δ : List Sl) (v x : D) (μ : List Mo) : SM := thenE (ev i δ μ) δ (kp3 δ v x)
def kp1 (o i : E) (δ : List Sl) (v : D) (μ : List Mo) : SM := thenE (ev o δ μ) δ (kp2 i δ v)
def klin (i : Nat) (δ : List Sl) (xs : List D) (μ : List Mo) : SM := if xs.length ≤ sizeLine then some (.nx, δ.set i (.lin xs), μ) else none
def kapp (i : Nat) (δ : List Sl) (xs : List D) (x : D) (μ : List Mo) : SM := if xs.length < sizeLine then some (.nx, δ.set i (.lin (xs ++ [x])), μ) else none
def kapp0 (i : Nat) (e : E) (δ : List Sl) (μ : List Mo) : Option Sl → SM
  | some (.lin xs) => thenE (ev e δ μ) δ (kapp i δ xs)
  | _ => none
def kstill (i : Nat) (δ : List Sl) (μ : List Mo) : Option Sl → SM
  | some (.lin xs) => some (.nx, δ.set i (.d (.lst xs)), μ)
  | _ => none
section
variable {δ : List Sl} {μ : List Mo} {a b c e : E} {es : Es} {o o' : Op} {i : Nat} {d x y : D} {xs : List D} {s : Mi.St} {ss sa sb : Ss} {t : Tg} {it : Mi.It} {lo hi : Eo} {f : Bi} {F : Sem}
@[simp] theorem v_d : vr (some (.d x)) μ = some (.ok x, μ) := nr rfl
@[simp] theorem e_var : ev (.var i) δ μ = vr δ[i]? μ := by simp only [ev]; generalize δ[i]? = o; rcases o with _ | o <;> first | rfl | (cases o <;> rfl)
@[simp] theorem e_con : ev (.con d) δ μ = some (.ok d, μ) := by simp only [ev, rR]
@[simp] theorem e_op : ev (.op o a b) δ μ = bindR (ev a δ μ) (k1 o b δ) := by simp only [ev]; rfl
@[simp] theorem e_k1 : k1 o b δ x μ = bindR (ev b δ μ) (k2 o x) := nr rfl
@[simp] theorem e_k2 : k2 o x y μ = optR (o.do μ x y) μ := nr rfl
@[simp] theorem e_neg : ev (.neg a) δ μ = bindR (ev a δ μ) kneg := by simp only [ev]; exact bx fun d μ => by cases d <;> first | rfl | (rename_i b; cases b <;> rfl)
@[simp] theorem e_kneg {i : Int} : kneg (.int i) μ = some (.ok (.int (-i)), μ) := nr rfl
@[simp] theorem e_not : ev (.not_ a) δ μ = bindR (ev a δ μ) knot := by simp only [ev]; exact bx fun d μ => by cases d <;> first | rfl | (rename_i b; cases b <;> rfl)
@[simp] theorem e_knot {b : Bool} : knot (.bl b) μ = some (.ok (.bl (!b)), μ) := nr rfl
@[simp] theorem e_nott : ev (.nott a) δ μ = bindR (ev a δ μ) knott := by simp only [ev]; rfl
@[simp] theorem e_knott : knott x μ = optR ((truD x).map fun b => .bl (!b)) μ := nr rfl
@[simp] theorem e_and : ev (.and_ a b) δ μ = bindR (ev a δ μ) (kand b δ) := by simp only [ev]; exact bx fun d μ => by cases d <;> first | rfl | (rename_i b; cases b <;> rfl)
@[simp] theorem e_kand1 : kand b δ (.bl true) μ = ev b δ μ := nr rfl
@[simp] theorem e_kand0 : kand b δ (.bl false) μ = some (.ok (.bl false), μ) := nr rfl
@[simp] theorem e_or : ev (.or_ a b) δ μ = bindR (ev a δ μ) (kor b δ) := by simp only [ev]; exact bx fun d μ => by cases d <;> first | rfl | (rename_i b; cases b <;> rfl)
@[simp] theorem e_kor1 : kor b δ (.bl true) μ = some (.ok (.bl true), μ) := nr rfl
@[simp] theorem e_kor0 : kor b δ (.bl false) μ = ev b δ μ := nr rfl
@[simp] theorem e_ite : ev (.ite c a b) δ μ = bindR (ev c δ μ) (kite a b δ) := by simp only [ev]; exact bx fun d μ => by cases d <;> first | rfl | (rename_i b; cases b <;> rfl)
@[simp] theorem e_kite1 : kite a b δ (.bl true) μ = ev a δ μ := nr rfl
@[simp] theorem e_kite0 : kite a b δ (.bl false) μ = ev b δ μ := nr rfl
@[simp] theorem e_chain : ev (.chain o o' a b c) δ μ = bindR (ev a δ μ) (kc1 o o' b c δ) := by simp only [ev]; exact bx fun x μ => bx fun y μ => bx fun d μ => by cases d <;> first | rfl | (rename_i b; cases b <;> rfl)
@[simp] theorem e_kc1 : kc1 o o' b c δ x μ = bindR (ev b δ μ) (kc2 o o' c δ x) := nr rfl
@[simp] theorem e_kc2 : kc2 o o' c δ x y μ = bindR (optR (o.do μ x y) μ) (kc3 o' c δ y) := nr rfl
@[simp] theorem e_kc31 : kc3 o c δ y (.bl true) μ = bindR (ev c δ μ) (k2 o y) := nr rfl
@[simp] theorem e_kc30 : kc3 o c δ y (.bl false) μ = some (.ok (.bl false), μ) := nr rfl
@[simp] theorem e_idx : ev (.idx a b) δ μ = bindR (ev a δ μ) (ki1 b δ) := by simp only [ev]; rfl
@[simp] theorem e_ki1 : ki1 b δ x μ = bindR (ev b δ μ) (ki2 x) := nr rfl
@[simp] theorem e_ki2 : ki2 x y μ = optR (ixD μ x y) μ := nr rfl
@[simp] theorem e_lidx : ev (.lidx i b) δ μ = kl0 b δ μ δ[i]? := by simp only [ev]; generalize δ[i]? = o; rcases o with _ | o <;> first | rfl | (cases o <;> first | rfl | exact bx fun d μ => by cases d <;> rfl)
@[simp] theorem e_kl0 : kl0 b δ μ (some (.lin xs)) = bindR (ev b δ μ) (kl xs) := nr rfl
@[simp] theorem e_kl {j : Int} : kl xs (.int j) μ = optR (L2.atI xs j) μ := nr rfl
@[simp] theorem e_slc : ev (.slc a lo hi) δ μ = bindR (ev a δ μ) (ks1 lo hi δ) := by simp only [ev]; rfl
@[simp] theorem e_ks1 : ks1 lo hi δ x μ = bindR (evo lo δ μ) (ks2 hi δ x) := nr rfl
@[simp] theorem e_ks2 {l : Option Int} : ks2 hi δ x l μ = bindR (evo hi δ μ) (ks3 x l) := nr rfl
@[simp] theorem e_ks3 {l h : Option Int} : ks3 x l h μ = optR (slD μ x l h) μ := nr rfl
@[simp] theorem e_rev : ev (.rev a) δ μ = bindR (ev a δ μ) krev := by simp only [ev]; rfl
@[simp] theorem e_krev : krev x μ = optR (revD μ x) μ := nr rfl
@[simp] theorem e_tup : ev (.tup es) δ μ = bindR (evs es δ μ) ktup := by simp only [ev]; rfl
@[simp] theorem e_ktup (hc : xs.length ≤ sizeLine) : ktup xs μ = some (.ok (.tup xs), μ) := if_pos hc
@[simp] theorem e_lst : ev (.lst es) δ μ = bindR (evs es δ μ) klst := by simp only [ev]; rfl
@[simp] theorem e_klst (hc : xs.length ≤ sizeLine) : klst xs μ = some (.ok (.lst xs), μ) := if_pos hc
@[simp] theorem e_mlst : ev (.mlst es) δ μ = bindR (evs es δ μ) kmlst := by simp only [ev]; rfl
@[simp] theorem e_kmlst (hc : xs.length ≤ sizeLine) : kmlst xs μ = some (.ok (.obj μ.length), μ ++ [.lst xs]) := if_pos hc
@[simp] theorem e_call : ev (.call F es) δ μ = bindR (evs es δ μ) F := by simp only [ev]; rfl
@[simp] theorem e_bi : ev (.bi f es) δ μ = bindR (evs es δ μ) (kb f) := by simp only [ev]; rfl
@[simp] theorem e_kb : kb f xs μ = optR (f.do μ xs) μ := nr rfl
@[simp] theorem e_comp {own : List Nat} : ev (.comp e t it c own) δ μ = bindR (evi it δ μ) (kcomp e t c own δ) := by simp only [ev]; rfl
@[simp] theorem e_lrng : ev (.lrng a) δ μ = bindR (ev a δ μ) klr := by simp only [ev]; exact bx fun d μ => by cases d <;> first | rfl | (rename_i b; cases b <;> rfl)
@[simp] theorem e_klr {j : Int} (hc : (decide (-(2 ^ 62) ≤ j) && decide (j ≤ 16777216)) = true) : klr (.int j) μ = some (.ok (.lst (rgD 0 j)), μ) := if_pos hc
@[simp] theorem e_err {nms : List (Str × Str)} : ev (.err nms e) δ μ = kerr nms (ev e δ μ) := by simp only [ev]; generalize ev e δ μ = r; rcases r with _ | ⟨r, _⟩ <;> first | rfl | (rcases r with ⟨_, _ | _⟩ | _ <;> rfl)
@[simp] theorem e_kerr1 {nms : List (Str × Str)} : kerr nms (some (.ok d, μ)) = some (.ok (.str ""), μ) := nr rfl
@[simp] theorem e_kerr0 {nms : List (Str × Str)} {z : Str} : kerr nms (some (.error (z, none), μ)) = optR ((nms.lookup z).map .str) μ := nr rfl
@[simp] theorem e_meth : ev (.meth f e es) δ μ = bindR (ev e δ μ) (km1 f es δ) := by simp only [ev]; exact bx fun d μ => by cases d <;> first | rfl | (rename_i b; cases b <;> rfl)
@[simp] theorem e_km1 {z : Str} : km1 f es δ (.str z) μ = bindR (evs es δ μ) (km2 f z) := nr rfl
@[simp] theorem e_km2 {z : Str} : km2 f z xs μ = optR (f.do μ (.str z :: xs)) μ := nr rfl
@[simp] theorem e_mrep : ev (.mrep a b) δ μ = bindR (ev a δ μ) (kmr1 b δ) := by simp only [ev]; exact bx fun x μ => bx fun d μ => by cases d <;> first | rfl | (rename_i b; cases b <;> rfl)
@[simp] theorem e_kmr1 : kmr1 b δ x μ = bindR (ev b δ μ) (kmr2 x) := nr rfl
@[simp] theorem e_kmr2 {j : Int} (hc : (decide (-(2 ^ 63) ≤ j) && decide (j < 2 ^ 63) && decide (j.toNat ≤ sizeLine)) = true) : kmr2 x (.int j) μ = some (.ok (.obj μ.length), μ ++ [.lst (List.replicate j.toNat x)]) := if_pos hc
@[simp] theorem e_dct {ks : List Str} : ev (.dct ks es) δ μ = bindR (evs es δ μ) (kdct ks) := by simp only [ev]; rfl
@[simp] theorem e_kdct {ks : List Str} (hc : (decide (ks.length = xs.length) && decide (ks.length ≤ 15) && decide ks.Nodup && !ks.isEmpty) = true) : kdct ks xs μ = some (.ok (.obj μ.length), μ ++ [.dct (ks.zip xs)]) := if_pos hc
@[simp] theorem e_nil : evs .nil δ μ = some (.ok [], μ) := by simp only [evs, rR]
@[simp] theorem e_cons : evs (.cons e es) δ μ = bindR (ev e δ μ) (kes es δ) := by simp only [evs]; rfl
@[simp] theorem e_kes : kes es δ x μ = bindR (evs es δ μ) (kes2 x) := nr rfl
@[simp] theorem e_kes2 : kes2 x xs μ = some (.ok (x :: xs), μ) := nr rfl
@[simp] theorem e_no : evo .no δ μ = some (.ok none, μ) := by simp only [evo, rR]
@[simp] theorem e_yes : evo (.yes e) δ μ = bindR (ev e δ μ) keo := by simp only [evo]; exact bx fun d μ => by cases d <;> first | rfl | (rename_i b; cases b <;> rfl)
@[simp] theorem e_keo {j : Int} : keo (.int j) μ = some (.ok (some j), μ) := nr rfl
@[simp] theorem e_seq : evi (.seq e) δ μ = bindR (ev e δ μ) kseq := by simp only [evi]; rfl
@[simp] theorem e_kseqt : kseq (.tup xs) μ = some (.ok xs, μ) := nr rfl
@[simp] theorem e_kseql : kseq (.lst xs) μ = some (.ok xs, μ) := nr rfl
@[simp] theorem e_rng : evi (.rng e) δ μ = bindR (ev e δ μ) krng := by simp only [evi]; exact bx fun d μ => by cases d <;> first | rfl | (rename_i b; cases b <;> rfl)
@[simp] theorem e_krng {j : Int} (hc : rgOk 0 j = true) : krng (.int j) μ = some (.ok (rgD 0 j), μ) := if_pos hc
@[simp] theorem e_rng2 : evi (.rng2 a b) δ μ = bindR (ev a δ μ) (krg1 b δ) := by simp only [evi]; exact bx fun x μ => bx fun y μ => by cases x <;> cases y <;> rfl
@[simp] theorem e_krg1 : krg1 b δ x μ = bindR (ev b δ μ) (krg2 x) := nr rfl
@[simp] theorem e_krg2 {i j : Int} (hc : rgOk i j = true) : krg2 (.int i) (.int j) μ = some (.ok (rgD i j), μ) := if_pos hc
@[simp] theorem e_enum : evi (.enum e) δ μ = bindR (ev e δ μ) kenum := by simp only [evi]; rfl
@[simp] theorem e_kenumt : kenum (.tup xs) μ = some (.ok (enumD xs), μ) := nr rfl
@[simp] theorem e_kenuml : kenum (.lst xs) μ = some (.ok (enumD xs), μ) := nr rfl
@[simp] theorem e_zip : evi (.zip a b) δ μ = bindR (ev a δ μ) (kzip1 b δ) := by simp only [evi]; rfl
@[simp] theorem e_kzip1 : kzip1 b δ x μ = bindR (ev b δ μ) (kzip2 x) := nr rfl
@[simp] theorem e_kzipt {ys : List D} : kzip2 (.tup xs) (.tup ys) μ = some (.ok (zipD xs ys), μ) := nr rfl
@[simp] theorem e_kzipl {ys : List D} : kzip2 (.lst xs) (.lst ys) μ = some (.ok (zipD xs ys), μ) := nr rfl
@[simp] theorem nxt_s {δ' : List Sl} : nxt (some δ') μ = some (.nx, δ', μ) := nr rfl
@[simp] theorem x_pass : ex .pass δ μ = some (.nx, δ, μ) := by simp only [ex]
@[simp] theorem x_expr : ex (.expr e) δ μ = thenE (ev e δ μ) δ (kexp δ) := by simp only [ex]; rfl
@[simp] theorem x_kexp : kexp δ x μ = some (.nx, δ, μ) := nr rfl
@[simp] theorem x_set : ex (.set t e) δ μ = thenE (ev e δ μ) δ (kset t δ) := by simp only [ex]; rfl
@[simp] theorem x_kset : kset t δ x μ = nxt (t.put x δ) μ := nr rfl
@[simp] theorem x_ret : ex (.ret e) δ μ = thenE (ev e δ μ) δ (kret δ) := by simp only [ex]; rfl
@[simp] theorem x_kret : kret δ x μ = some (.rt x, δ, μ) := nr rfl
@[simp] theorem x_retn : ex .retn δ μ = some (.rt .non, δ, μ) := by simp only [ex]
@[simp] theorem x_ite : ex (.ite c sa sb) δ μ = thenE (ev c δ μ) δ (kif sa sb δ) := by simp only [ex]; exact tx fun d μ => by cases d <;> first | rfl | (rename_i b; cases b <;> rfl)
@[simp] theorem x_kif1 : kif sa sb δ (.bl true) μ = exs sa δ μ := nr rfl
@[simp] theorem x_kif0 : kif sa sb δ (.bl false) μ = exs sb δ μ := nr rfl
@[simp] theorem x_for : ex (.for_ t it ss) δ μ = thenE (evi it δ μ) δ (kfor t ss δ) := by simp only [ex]; rfl
theorem x_kfor : kfor t ss δ xs μ = forL t (exs ss) xs δ μ := rfl
@[simp] theorem x_while {n : Nat} : ex (.while_ n c ss) δ μ = whileL (ev c) (exs ss) n δ μ := by simp only [ex]
@[simp] theorem x_brk : ex .brk δ μ = some (.bk, δ, μ) := by simp only [ex]
@[simp] theorem x_cont : ex .cont δ μ = some (.ct, δ, μ) := by simp only [ex]
@[simp] theorem x_raise {z : Str} : ex (.raise z) δ μ = some (.ex (z, none), δ, μ) := by simp only [ex]
@[simp] theorem x_put : ex (.put a b e) δ μ = thenE (ev e δ μ) δ (kp1 a b δ) := by simp only [ex]; rfl
@[simp] theorem x_kp1 : kp1 a b δ x μ = thenE (ev a δ μ) δ (kp2 b δ x) := nr rfl
@[simp] theorem x_kp2 : kp2 b δ x y μ = thenE (ev b δ μ) δ (kp3 δ x y) := nr rfl
@[simp] theorem x_kp3 : kp3 δ x y d μ = nxm δ (putD μ y d x) := nr rfl
@[simp] theorem nxm_s {μ' : List Mo} : nxm δ (some μ') = some (.nx, δ, μ') := nr rfl
@[simp] theorem x_lin : ex (.lin i es) δ μ = thenE (evs es δ μ) δ (klin i δ) := by simp only [ex]; rfl
@[simp] theorem x_klin (hc : xs.length ≤ sizeLine) : klin i δ xs μ = some (.nx, δ.set i (.lin xs), μ) := if_pos hc
@[simp] theorem x_app : ex (.app i e) δ μ = kapp0 i e δ μ δ[i]? := by simp only [ex]; generalize δ[i]? = o; rcases o with _ | o <;> first | rfl | (cases o <;> rfl)
@[simp] theorem x_kapp0 : kapp0 i e δ μ (some (.lin xs)) = thenE (ev e δ μ) δ (kapp i δ xs) := nr rfl
@[simp] theorem x_kapp (hc : xs.length < sizeLine) : kapp i δ xs x μ = some (.nx, δ.set i (.lin (xs ++ [x])), μ) := if_pos hc
@[simp] theorem x_still : ex (.still i) δ μ = kstill i δ μ δ[i]? := by simp only [ex]; generalize δ[i]? = o; rcases o with _ | o <;> first | rfl | (cases o <;> rfl)
@[simp] theorem x_kstill : kstill i δ μ (some (.lin xs)) = some (.nx, δ.set i (.d (.lst xs)), μ) := nr rfl
@[simp] theorem x_nil : exs .nil δ μ = some (.nx, δ, μ) := by simp only [exs]
@[simp] theorem x_cons : exs (.cons s ss) δ μ = thenS (ex s δ μ) (exs ss) := by simp only [exs]; rfl
@[simp] theorem p_name : Tg.put (.name i) d δ = some (δ.set i (.d d)) := nr rfl
@[simp] theorem p_pair {t' : Tg} : Tg.put (.pair t t') (.tup [x, y]) δ = (t.put x δ).bind fun δ => t'.put y δ := nr rfl
@[simp] theorem p_pairl {t' : Tg} : Tg.put (.pair t t') (.lst [x, y]) δ = (t.put x δ).bind fun δ => t'.put y δ := nr rfl
@[simp] theorem p_trip {t' t2 : Tg} {z : D} : Tg.put (.trip t t' t2) (.tup [x, y, z]) δ = (t.put x δ).bind fun δ => (t'.put y δ).bind fun δ => t2.put z δ := nr rfl
/-! operators one by one -/
@[simp] theorem o_add {a b : D} : Op.do .add μ a b = addD μ a b := nr rfl
@[simp] theorem o_sub {i j : Int} : Op.do .sub μ (.int i) (.int j) = some (.int (i - j)) := nr rfl
@[simp] theorem o_mul {a b : D} : Op.do .mul μ a b = mulD a b := nr rfl
@[simp] theorem o_mod {i j : Int} (hc : 0 < j) : Op.do .mod μ (.int i) (.int j) = some (.int (i % j)) := if_pos hc
@[simp] theorem o_fdiv {i j : Int} (hc : (decide (0 < j) && decide (j.natAbs.log2 < 9000)) = true) : Op.do .fdiv μ (.int i) (.int j) = some (.int (i / j)) := if_pos hc
@[simp] theorem o_lt {i j : Int} : Op.do (.cm .lt) μ (.int i) (.int j) = some (.bl (decide (i < j))) := nr rfl
@[simp] theorem o_le {i j : Int} : Op.do (.cm .le) μ (.int i) (.int j) = some (.bl (decide (i ≤ j))) := nr rfl
@[simp] theorem o_gt {i j : Int} : Op.do (.cm .gt) μ (.int i) (.int j) = some (.bl (decide (j < i))) := nr rfl
@[simp] theorem o_ge {i j : Int} : Op.do (.cm .ge) μ (.int i) (.int j) = some (.bl (decide (j ≤ i))) := nr rfl
@[simp] theorem o_eq {a b : D} : Op.do .eq μ a b = (eqD μ a b).map .bl := nr rfl
@[simp] theorem o_ne {a b : D} : Op.do .ne μ a b = (eqD μ a b).map fun r => .bl (!r) := nr rfl
@[simp] theorem o_is {a b : D} : Op.do .is_ μ a b = (isD a b).map .bl := nr rfl
@[simp] theorem o_isn {a b : D} : Op.do .isn μ a b = (isD a b).map fun r => .bl (!r) := nr rfl
@[simp] theorem a_int {i j : Int} : addD μ (.int i) (.int j) = some (.int (i + j)) := nr rfl
@[simp] theorem a_tup {xs ys : List D} (hc : xs.length + ys.length ≤ sizeLine) : addD μ (.tup xs) (.tup ys) = some (.tup (xs ++ ys)) := if_pos hc
@[simp] theorem a_lst {xs ys : List D} (hc : xs.length + ys.length ≤ sizeLine) : addD μ (.lst xs) (.lst ys) = some (.lst (xs ++ ys)) := if_pos hc
@[simp] theorem a_str {z w : Str} (hc : z.length + w.length ≤ sizeLine) : addD μ (.str z) (.str w) = some (.str (z ++ w)) := if_pos hc
@[simp] theorem ix_t {j : Int} : ixD μ (.tup xs) (.int j) = L2.atI xs j := nr rfl
@[simp] theorem ix_l {j : Int} : ixD μ (.lst xs) (.int j) = L2.atI xs j := nr rfl
@[simp] theorem ix_s {ns : List Int} {j : Int} : ixD μ (.scr ns) (.int j) = (L2.atI ns j).map .int := nr rfl
@[simp] theorem sl_t {l h : Option Int} : slD μ (.tup xs) l h = some (.tup (cutL xs l h)) := nr rfl
@[simp] theorem sl_l {l h : Option Int} : slD μ (.lst xs) l h = some (.lst (cutL xs l h)) := nr rfl
@[simp] theorem is_non : isD .non .non = some true := nr rfl
@[simp] theorem is_tup : isD (.tup xs) .non = some false := nr rfl
@[simp] theorem b_len_t : Bi.do .len μ [.tup xs] = some (.int xs.length) := nr rfl
@[simp] theorem b_len_l : Bi.do .len μ [.lst xs] = some (.int xs.length) := nr rfl
@[simp] theorem b_len_s {ns : List Int} : Bi.do .len μ [.scr ns] = some (.int ns.length) := nr rfl
@[simp] theorem b_int {j : Int} : Bi.do .int μ [.int j] = some (.int j) := nr rfl
@[simp] theorem b_abs {j : Int} : Bi.do .abs μ [.int j] = some (.int (if j < 0 then -j else j)) := nr rfl
@[simp] theorem b_tuple_l : Bi.do .tuple μ [.lst xs] = some (.tup xs) := nr rfl
@[simp] theorem b_tuple_t : Bi.do .tuple μ [.tup xs] = some (.tup xs) := nr rfl
@[simp] theorem b_list_l : Bi.do .list μ [.lst xs] = some (.lst xs) := nr rfl
@[simp] theorem b_list_t : Bi.do .list μ [.tup xs] = some (.lst xs) := nr rfl
@[simp] theorem b_min {i j : Int} : Bi.do .min μ [.int i, .int j] = some (.int (if j < i then j else i)) := nr rfl
@[simp] theorem b_max {i j : Int} : Bi.do .max μ [.int i, .int j] = some (.int (if j > i then j else i)) := nr rfl
@[simp] theorem b_str {z : Str} : Bi.do .str μ [.str z] = some (.str z) := nr rfl
theorem ix_o {n : Nat} {j : Int} (h : μ[n]? = some (.lst xs)) : ixD μ (.obj n) (.int j) = L2.atI xs j := by simp only [ixD, see, h]
end
section
variable {α : Type} {x y z w u : α} {xs : List α}
@[simp] theorem at0 : L2.atI (x :: xs) 0 = some x := by
  have h : (0 : Int) < ((x :: xs).length : Int) := by simp only [List.length_cons]; omega
  unfold L2.atI L2.ixN
  rw [if_pos (by omega), if_pos h]; rfl
@[simp] theorem at1 : L2.atI (x :: y :: xs) 1 = some y := by
  have h : (1 : Int) < ((x :: y :: xs).length : Int) := by simp only [List.length_cons]; omega
  unfold L2.atI L2.ixN
  rw [if_pos (by omega), if_pos h]; rfl
@[simp] theorem at2 : L2.atI (x :: y :: z :: xs) 2 = some z := by
  have h : (2 : Int) < ((x :: y :: z :: xs).length : Int) := by simp only [List.length_cons]; omega
  unfold L2.atI L2.ixN
  rw [if_pos (by omega), if_pos h]; rfl
@[simp] theorem at3 : L2.atI (x :: y :: z :: w :: xs) 3 = some w := by
  have h : (3 : Int) < ((x :: y :: z :: w :: xs).length : Int) := by simp only [List.length_cons]; omega
  unfold L2.atI L2.ixN
  rw [if_pos (by omega), if_pos h]; rfl
@[simp] theorem at4 : L2.atI (x :: y :: z :: w :: u :: xs) 4 = some u := by
  have h : (4 : Int) < ((x :: y :: z :: w :: u :: xs).length : Int) := by simp only [List.length_cons]; omega
  unfold L2.atI L2.ixN
  rw [if_pos (by omega), if_pos h]; rfl
end
theorem szL : sizeLine = 16777216 := sizeLine_eq
end Ev
set_option Elab.async false
set_option linter.all false
set_option maxRecDepth 100000
set_option maxHeartbeats 4000000
/-! Evq: == and in of data. -/
namespace Ev
open PySem L2 Mi
mutual
/-- == -/
def eqb : D → D → Bool
  | .non, .non => true
  | .bl a, .bl b => a == b
  | .bl a, .int j => (if a = true then (1 : Int) else 0) == j
  | .int i, .bl b => i == (if b = true then (1 : Int) else 0)
  | .int i, .int j => i == j
  | .str x, .str y => x == y
  | .lst xs, .lst ys => eqbs xs ys
  | .tup xs, .tup ys => eqbs xs ys
  | _, _ => false
def eqbs : List D → List D → Bool
  | [], [] => true
  | x :: xs, y :: ys => eqb x y && eqbs xs ys
  | _, _ => false
end
mutual
/-- plain data, at most n deep -/
def okN : Nat → D → Bool
  | _, .non => true
  | _, .bl _ => true
  | _, .int _ => true
  | _, .str x => PyData.strOk x
  | n + 1, .tup xs => okNs n xs
  | n + 1, .lst xs => okNs n xs
  | _, _ => false
def okNs : Nat → List D → Bool
  | _, [] => true
  | n, x :: xs => okN n x && okNs n xs
end
mutual
theorem ok_py : ∀ (n : Nat) (a : D), okN n a = true → ∃ p, py0 a = some p ∧ p.canLay0 = true ∧ p.depth ≤ n
  | _, .non, _ => ⟨_, rfl, by simp [PyData.canLay0], by simp [PyData.depth]⟩
  | _, .bl _, _ => ⟨_, rfl, by simp [PyData.canLay0], by simp [PyData.depth]⟩
  | _, .int _, _ => ⟨_, rfl, by simp [PyData.canLay0], by simp [PyData.depth]⟩
  | _, .str x, h => ⟨_, rfl, by simpa [PyData.canLay0, okN] using h, by simp [PyData.depth]⟩
  | n + 1, .tup xs, h => by
    obtain ⟨ps, h1, h2, h3⟩ := oks_py n xs (by simpa [okN] using h)
    exact ⟨.tuple ps, by simp [py0, h1], by simpa [PyData.canLay0] using h2, by simp [PyData.depth]; omega⟩
  | n + 1, .lst xs, h => by
    obtain ⟨ps, h1, h2, h3⟩ := oks_py n xs (by simpa [okN] using h)
    exact ⟨.list ps, by simp [py0, h1], by simpa [PyData.canLay0] using h2, by simp [PyData.depth]; omega⟩
  | 0, .tup _, h => by simp [okN] at h
  | 0, .lst _, h => by simp [okN] at h
  | n, .ty _, h => by cases n <;> simp [okN] at h
  | n, .glo _, h => by cases n <;> simp [okN] at h
  | n, .obj _, h => by cases n <;> simp [okN] at h
  | n, .scr _, h => by cases n <;> simp [okN] at h
theorem oks_py : ∀ (n : Nat) (xs : List D), okNs n xs = true → ∃ ps, py0s xs = some ps ∧ PyData.canLayAll0 ps = true ∧ PyData.depthAll ps ≤ n
  | _, [], _ => ⟨[], rfl, by simp [PyData.canLayAll0], by simp [PyData.depthAll]⟩
  | n, x :: xs, h => by
    simp only [okNs, Bool.and_eq_true] at h
    obtain ⟨p, h1, h2, h3⟩ := ok_py n x h.1
    obtain ⟨ps, h4, h5, h6⟩ := oks_py n xs h.2
    exact ⟨p :: ps, by simp [py0s, h1, h4], by simp [PyData.canLayAll0, h2, h5], by simp [PyData.depthAll]; omega⟩
end
mutual
theorem eqv_eqb : ∀ (a b : D) (p q : PyData), py0 a = some p → py0 b = some q → PyData.eqv p q = eqb a b
  | .tup xs, .tup ys, p, q, h1, h2 => by
    simp only [py0, Option.map_eq_some_iff] at h1 h2
    obtain ⟨ps, h1, rfl⟩ := h1
    obtain ⟨qs, h2, rfl⟩ := h2
    simp only [PyData.eqv, eqb]
    exact eqvs_eqbs xs ys ps qs h1 h2
  | .lst xs, .lst ys, p, q, h1, h2 => by
    simp only [py0, Option.map_eq_some_iff] at h1 h2
    obtain ⟨ps, h1, rfl⟩ := h1
    obtain ⟨qs, h2, rfl⟩ := h2
    simp only [PyData.eqv, eqb]
    exact eqvs_eqbs xs ys ps qs h1 h2
  | .non, b, p, q, h1, h2 => by cases b <;> simp [py0] at h1 h2 <;> first | (subst h1; first | (subst h2; simp [PyData.eqv, eqb]; done) | (obtain ⟨_, _, rfl⟩ := h2; simp [PyData.eqv, eqb]; done)) | skip
  | .bl a, b, p, q, h1, h2 => by cases b <;> simp [py0] at h1 h2 <;> first | (subst h1; first | (subst h2; simp [PyData.eqv, eqb]; done) | (obtain ⟨_, _, rfl⟩ := h2; simp [PyData.eqv, eqb]; done)) | skip
  | .int a, b, p, q, h1, h2 => by cases b <;> simp [py0] at h1 h2 <;> first | (subst h1; first | (subst h2; simp [PyData.eqv, eqb]; done) | (obtain ⟨_, _, rfl⟩ := h2; simp [PyData.eqv, eqb]; done)) | skip
  | .str a, b, p, q, h1, h2 => by cases b <;> simp [py0] at h1 h2 <;> first | (subst h1; first | (subst h2; simp [PyData.eqv, eqb]; done) | (obtain ⟨_, _, rfl⟩ := h2; simp [PyData.eqv, eqb]; done)) | skip
  | .tup xs, b, p, q, h1, h2 => by
    cases b <;> simp [py0] at h1 h2 <;> (obtain ⟨ps, h1, rfl⟩ := h1) <;> first
      | (subst h2; simp [PyData.eqv, eqb]; done)
      | (obtain ⟨qs, h2, rfl⟩ := h2; first | (simp [PyData.eqv, eqb]; done) | (simp only [PyData.eqv, eqb]; exact eqvs_eqbs _ _ _ _ h1 h2))
  | .lst xs, b, p, q, h1, h2 => by
    cases b <;> simp [py0] at h1 h2 <;> (obtain ⟨ps, h1, rfl⟩ := h1) <;> first
      | (subst h2; simp [PyData.eqv, eqb]; done)
      | (obtain ⟨qs, h2, rfl⟩ := h2; first | (simp [PyData.eqv, eqb]; done) | (simp only [PyData.eqv, eqb]; exact eqvs_eqbs _ _ _ _ h1 h2))
  | .ty _, _, _, _, h1, _ => by simp [py0] at h1
  | .glo _, _, _, _, h1, _ => by simp [py0] at h1
  | .obj _, _, _, _, h1, _ => by simp [py0] at h1
  | .scr _, _, _, _, h1, _ => by simp [py0] at h1
theorem eqvs_eqbs : ∀ (xs ys : List D) (ps qs : List PyData), py0s xs = some ps → py0s ys = some qs → PyData.eqvAll ps qs = eqbs xs ys
  | [], [], ps, qs, h1, h2 => by
    simp [py0s] at h1 h2
    subst h1 h2
    simp [PyData.eqvAll, eqbs]
  | x :: xs, y :: ys, ps, qs, h1, h2 => by
    simp only [py0s, Option.bind_eq_some_iff, Option.map_eq_some_iff] at h1 h2
    obtain ⟨p, h3, ps', h4, rfl⟩ := h1
    obtain ⟨q, h5, qs', h6, rfl⟩ := h2
    simp only [PyData.eqvAll, eqbs, eqv_eqb x y p q h3 h5, eqvs_eqbs xs ys ps' qs' h4 h6]
  | [], y :: ys, ps, qs, h1, h2 => by
    simp only [py0s, Option.bind_eq_some_iff, Option.map_eq_some_iff, Option.some.injEq] at h1 h2
    subst h1
    obtain ⟨q, h5, qs', h6, rfl⟩ := h2
    simp [PyData.eqvAll, eqbs]
  | x :: xs, [], ps, qs, h1, h2 => by
    simp only [py0s, Option.bind_eq_some_iff, Option.map_eq_some_iff, Option.some.injEq] at h1 h2
    subst h2
    obtain ⟨p, h3, ps', h4, rfl⟩ := h1
    simp [PyData.eqvAll, eqbs]
end
theorem see_ok {μ : List Mo} {n : Nat} {a : D} (h : okN n a = true) : see μ a = a := by
  cases a with
  | obj k => cases n <;> simp [okN] at h
  | _ => rfl
theorem eqD_ok {μ : List Mo} {a b : D} (ha : okN 64 a = true) (hb : okN 64 b = true) : eqD μ a b = some (eqb a b) := by
  obtain ⟨p, h1, h2, h3⟩ := ok_py 64 a ha
  obtain ⟨q, h4, h5, h6⟩ := ok_py 64 b hb
  unfold eqD
  rw [see_ok ha, see_ok hb, h1, h4]
  simp only [Option.bind_some]
  rw [if_pos (by simp [SeqAt.shaped, h2, h3, h5, h6]), eqv_eqb a b p q h1 h4]
theorem any_eqb {a : D} {p : PyData} (h : py0 a = some p) : ∀ {ds : List D} {qs : List PyData}, py0s ds = some qs → (qs.any fun z => PyData.eqv z p) = ds.any fun z => eqb z a
  | [], qs, h2 => by
    simp [py0s] at h2
    subst h2
    rfl
  | d :: ds, qs, h2 => by
    simp only [py0s, Option.bind_eq_some_iff, Option.map_eq_some_iff] at h2
    obtain ⟨q, h5, qs', h6, rfl⟩ := h2
    rw [List.any_cons, List.any_cons, any_eqb h h6, eqv_eqb d a q p h5 h]
theorem inD_t {μ : List Mo} {a : D} {ds : List D} (ha : okN 64 a = true) (hb : okNs 63 ds = true) : inD μ a (.tup ds) = some (ds.any fun z => eqb z a) := by
  obtain ⟨p, h1, h2, h3⟩ := ok_py 64 a ha
  obtain ⟨qs, h4, h5, h6⟩ := oks_py 63 ds hb
  have e : inD μ a (.tup ds) = (py0 (see μ a)).bind fun p => (py0s ds).bind fun qs => if (SeqAt.shaped p && SeqAt.shaped (.tuple qs)) = true then some (qs.any fun z => PyData.eqv z p) else none := rfl
  rw [e, see_ok ha, h1, h4]
  simp only [Option.bind_some]
  rw [if_pos (by simp [SeqAt.shaped, h2, h3, PyData.canLay0, PyData.depth, h5]; omega), any_eqb h1 h4]
theorem inD_l {μ : List Mo} {a : D} {ds : List D} (ha : okN 64 a = true) (hb : okNs 63 ds = true) : inD μ a (.lst ds) = some (ds.any fun z => eqb z a) := by
  obtain ⟨p, h1, h2, h3⟩ := ok_py 64 a ha
  obtain ⟨qs, h4, h5, h6⟩ := oks_py 63 ds hb
  have e : inD μ a (.lst ds) = (py0 (see μ a)).bind fun p => (py0s ds).bind fun qs => if (SeqAt.shaped p && SeqAt.shaped (.list qs)) = true then some (qs.any fun z => PyData.eqv z p) else none := rfl
  rw [e, see_ok ha, h1, h4]
  simp only [Option.bind_some]
  rw [if_pos (by simp [SeqAt.shaped, h2, h3, PyData.canLay0, PyData.depth, h5]; omega), any_eqb h1 h4]
mutual
theorem okN_mono : ∀ (n m : Nat) (a : D), n ≤ m → okN n a = true → okN m a = true
  | _, m, .non, _, _ => by cases m <;> rfl
  | _, m, .bl _, _, _ => by cases m <;> rfl
  | _, m, .int _, _, _ => by cases m <;> rfl
  | n, m, .str x, _, h => by cases n <;> cases m <;> simpa [okN] using h
  | n + 1, m + 1, .tup xs, hm, h => by simp only [okN] at h ⊢; exact okNs_mono n m xs (by omega) h
  | n + 1, m + 1, .lst xs, hm, h => by simp only [okN] at h ⊢; exact okNs_mono n m xs (by omega) h
  | 0, _, .tup _, _, h => by simp [okN] at h
  | 0, _, .lst _, _, h => by simp [okN] at h
  | n + 1, 0, _, hm, _ => by omega
  | n, _, .ty _, _, h => by cases n <;> simp [okN] at h
  | n, _, .glo _, _, h => by cases n <;> simp [okN] at h
  | n, _, .obj _, _, h => by cases n <;> simp [okN] at h
  | n, _, .scr _, _, h => by cases n <;> simp [okN] at h
theorem okNs_mono : ∀ (n m : Nat) (xs : List D), n ≤ m → okNs n xs = true → okNs m xs = true
  | _, _, [], _, _ => by simp [okNs]
  | n, m, x :: xs, hm, h => by
    simp only [okNs, Bool.and_eq_true] at h ⊢
    exact ⟨okN_mono n m x hm h.1, okNs_mono n m xs hm h.2⟩
end
theorem okNs_all {n : Nat} : ∀ {xs : List D}, (∀ x ∈ xs, okN n x = true) → okNs n xs = true
  | [], _ => rfl
  | x :: xs, h => by
    simp only [okNs, Bool.and_eq_true]
    exact ⟨h x List.mem_cons_self, okNs_all fun y hy => h y (List.mem_cons_of_mem _ hy)⟩
theorem eq_lnil {μ : List Mo} {xs : List D} (h : okNs 63 xs = true) : eqD μ (.lst xs) (.lst []) = some xs.isEmpty := by
  rw [eqD_ok (by simpa [okN] using h) (by rfl)]
  cases xs <;> simp [eqb, eqbs]
theorem eq_tnil {μ : List Mo} {xs : List D} (h : okNs 63 xs = true) : eqD μ (.tup xs) (.tup []) = some xs.isEmpty := by
  rw [eqD_ok (by simpa [okN] using h) (by rfl)]
  cases xs <;> simp [eqb, eqbs]
@[simp] theorem eq_int {μ : List Mo} {i j : Int} : eqD μ (.int i) (.int j) = some (decide (i = j)) := by
  rw [eqD_ok (by rfl) (by rfl)]
  simp only [eqb]
  congr 1
end Ev
set_option Elab.async false
set_option linter.all false
set_option maxRecDepth 100000
set_option maxHeartbeats 4000000
/-! Dra: what the laws draw: numbers, items. -/
namespace Dr
open PySem L2 Mi Pg
/-- the state of a source of numbers at the thing n -/
def Vat (μ : List Mo) (n : Nat) : Prop := ∃ a b : Int, μ[n]? = some (.lst [.int a, .int b]) ∧ 0 ≤ a ∧ 0 ≤ b ∧ b < 2 ^ 32
/-- drawn from the thing n: all else stands -/
structure Dn (n : Nat) (μ μ' : List Mo) : Prop where
  vat : Vat μ' n
  len : μ'.length = μ.length
  oth : ∀ m, m ≠ n → μ'[m]? = μ[m]?
theorem Dn.trans {n : Nat} {μ μ1 μ2 : List Mo} (a : Dn n μ μ1) (b : Dn n μ1 μ2) : Dn n μ μ2 := ⟨b.vat, b.len.trans a.len, fun m h => (b.oth m h).trans (a.oth m h)⟩
theorem Dn.of_set {n : Nat} {μ : List Mo} {a b : Int} (h : n < μ.length) (ha : 0 ≤ a) (hb : 0 ≤ b) (hb2 : b < 2 ^ 32) : Dn n μ (μ.set n (.lst [.int a, .int b])) :=
  ⟨⟨a, b, by rw [List.getElem?_set_self h], ha, hb, hb2⟩, by simp, fun m hm => by rw [List.getElem?_set_ne hm.symm]⟩
theorem Vat.dn {n : Nat} {μ : List Mo} (h : Vat μ n) : Dn n μ μ := ⟨h, rfl, fun _ _ => rfl⟩
theorem Vat.lt {n : Nat} {μ : List Mo} (h : Vat μ n) : n < μ.length := by
  obtain ⟨a, b, e, _⟩ := h
  exact (List.getElem?_eq_some_iff.mp e).1
theorem log_small {m : Int} (h0 : 0 < m) (h : m < 2 ^ 64) : m.natAbs.log2 < 9000 := by
  have : m.natAbs < 2 ^ 64 := by omega
  have h2 : m.natAbs ≠ 0 := by omega
  have := (Nat.log2_lt h2).mpr this
  omega
theorem under_spec {n : Nat} {μ : List Mo} {m : Int} (v : Vat μ n) (h0 : 0 < m) (h1 : m < 2 ^ 64) : ∃ r μ', F_law_under [.obj n, .int m] μ = some (.ok (.int r), μ') ∧ Dn n μ μ' ∧ 0 ≤ r ∧ r < m := by
  have hlt := v.lt
  obtain ⟨a, b, e, ha, hb, hb2⟩ := v
  have hl := log_small h0 h1
  by_cases hp : 0 < a
  · refine ⟨a % m, μ.set n (.lst [.int (a / m), .int b]), ?_, Dn.of_set hlt (Int.ediv_nonneg ha (by omega)) hb hb2, Int.emod_nonneg _ (by omega), Int.emod_lt_of_pos _ h0⟩
    simp [F_law_under, Mi.run, B__law_under, exs, ex, ev, evs, thenE, thenS, bindR, retR, optR, ixD, see, e, L2.atI, L2.ixN, Op.do, cmD, Cm.int, hp, Bi.do, Tg.put, h0, hl, putD]
  · have ha0 : a = 0 := by omega
    subst ha0
    have hb3 : 0 ≤ (b * 39373 + 101) % 2147483629 := Int.emod_nonneg _ (by omega)
    have hb4 : (b * 39373 + 101) % 2147483629 < 2147483629 := Int.emod_lt_of_pos _ (by omega)
    obtain ⟨c, hc⟩ : ∃ c, (b * 39373 + 101) % 2147483629 = c := ⟨_, rfl⟩
    rw [hc] at hb3 hb4
    have s1 : Mi.small64 39373 = true := by decide
    have s2 : Mi.small64 c = true := by unfold Mi.small64; simp; omega
    refine ⟨(c * (c / 5 + 9) % 2147483587 / 32) % m, μ.set n (.lst [.int 0, .int c]), ?_, Dn.of_set hlt (by omega) hb3 (by omega), Int.emod_nonneg _ (by omega), Int.emod_lt_of_pos _ h0⟩
    have e2 : (μ.set n (Mo.lst [D.int 0, D.int c]))[n]? = some (Mo.lst [D.int 0, D.int c]) := by rw [List.getElem?_set_self hlt]
    have l5 : Nat.log2 5 < 9000 := by decide
    have l32 : Nat.log2 32 < 9000 := by decide
    simp [F_law_under, Mi.run, B__law_under, exs, ex, ev, evs, thenE, thenS, bindR, retR, optR, ixD, see, e, L2.atI, L2.ixN, Op.do, cmD, Cm.int, Bi.do, Tg.put, h0, hl, putD, mulD, mulOk, s1, addD, hc, e2, s2, l5, l32]
theorem atI_of {α : Type} {xs : List α} {r : Int} (h0 : 0 ≤ r) (h1 : r < xs.length) : ∃ x ∈ xs, L2.atI xs r = some x := by
  have hl : r.toNat < xs.length := by omega
  refine ⟨xs[r.toNat], List.getElem_mem hl, ?_⟩
  unfold L2.atI L2.ixN
  rw [if_pos h0, if_pos h1, Option.bind_some, List.getElem?_eq_getElem hl]
theorem some_spec {n : Nat} {μ : List Mo} {xs : List D} (v : Vat μ n) (hx : xs ≠ []) (hl : xs.length < 2 ^ 60) : ∃ x ∈ xs, ∃ μ', F_law_some [.obj n, .lst xs] μ = some (.ok x, μ') ∧ Dn n μ μ' := by
  have hp : 0 < xs.length := List.length_pos_iff.mpr hx
  obtain ⟨r, μ', e, d, h0, h1⟩ := under_spec (m := (xs.length : Int)) v (by omega) (by omega)
  obtain ⟨x, hm, ea⟩ := atI_of h0 h1
  refine ⟨x, hm, μ', ?_, d⟩
  simp [F_law_some, Mi.run, B__law_some, exs, ex, ev, evs, thenE, thenS, bindR, retR, optR, Bi.do, lenD, e, ixD, see, ea]
end Dr
set_option Elab.async false
set_option linter.all false
set_option maxRecDepth 100000
set_option maxHeartbeats 4000000
/-! Drb: boards as data of their own; the boards that the laws draw. -/
namespace Dr
open PySem L2 Mi Pg Ev
inductive Src | x | y | c (i : Nat)
def Src.d : Src → D
  | .x => .str "x"
  | .y => .str "y"
  | .c i => .int i
inductive When | card | hole | plain | minor | major
def When.d : When → D
  | .card => .str "card"
  | .hole => .str "hole"
  | .plain => .str "plain"
  | .minor => .str "minor"
  | .major => .str "major"
/-- at a card, not at a break -/
def When.cardy : When → Bool
  | .card => true
  | .hole => true
  | .plain => true
  | _ => false
inductive Act | add (less : Bool) (s : Src) (i : Nat) | clear (i : Nat) | set (i : Nat) (b : Bool) | print (ss : List Src)
def Act.d : Act → D
  | .add l s i => .tup [.str (if l = true then "less" else "add"), s.d, .int i]
  | .clear i => .tup [.str "clear", .int i]
  | .set i b => .tup [.str "set", .int i, .bl b]
  | .print ss => .tup [.str "print", .tup (ss.map Src.d)]
structure Wire where
  when : When
  sw : Option (Nat × Bool)
  act : Act
def swD : Option (Nat × Bool) → D
  | none => .non
  | some (i, b) => .tup [.int i, .bl b]
def Wire.d (w : Wire) : D := .tup [w.when.d, swD w.sw, w.act.d]
structure Board where
  nc : Nat
  ns : Nat
  ws : List Wire
def Board.d (b : Board) : D := .tup [.int b.nc, .int b.ns, .tup (b.ws.map Wire.d)]
def Src.ok (nc : Nat) (w : When) : Src → Prop
  | .c i => i < nc
  | _ => w.cardy = true
def Act.ok (nc ns : Nat) (w : When) : Act → Prop
  | .add _ s i => s.ok nc w ∧ i < nc
  | .clear i => i < nc
  | .set i _ => i < ns
  | .print ss => 1 ≤ ss.length ∧ ss.length ≤ 3 ∧ ∀ s ∈ ss, s.ok nc w
def Wire.ok (nc ns : Nat) (w : Wire) : Prop := (∀ i b, w.sw = some (i, b) → i < ns) ∧ w.act.ok nc ns w.when
structure Board.ok (b : Board) : Prop where
  c : b.nc ≤ 3
  s : b.ns ≤ 2
  l : b.ws.length ≤ 8
  w : ∀ w ∈ b.ws, w.ok b.nc b.ns
/-! ### comprehensions -/
/-- a comprehension without a test whose items are drawn -/
theorem comp_draw {n : Nat} {tg : Tg} {keep elt : List Sl → List Mo → RM D} {δ : List Sl} {Q : D → Prop} (hk : ∀ δ μ, keep δ μ = some (.ok (.bl true), μ)) : ∀ (xs acc : List D) (μ : List Mo), Vat μ n → acc.length + xs.length ≤ sizeLine →
    (∀ x ∈ xs, ∃ δ1, tg.put x δ = some δ1 ∧ ∀ μ, Vat μ n → ∃ d μ', elt δ1 μ = some (.ok d, μ') ∧ Dn n μ μ' ∧ Q d) → ∃ ds μ', compL tg keep elt δ xs acc μ = some (.ok (.lst (acc ++ ds)), μ') ∧ Dn n μ μ' ∧ ds.length = xs.length ∧ ∀ d ∈ ds, Q d
  | [], acc, μ, v, _, _ => ⟨[], μ, by simp [compL, retR], v.dn, rfl, by simp⟩
  | x :: xs, acc, μ, v, hz, h => by
    obtain ⟨δ1, p1, he⟩ := h x List.mem_cons_self
    obtain ⟨d, μ1, e1, d1, q1⟩ := he μ v
    obtain ⟨ds, μ2, e2, d2, hl, hq⟩ := comp_draw hk xs (acc ++ [d]) μ1 d1.vat (by simp at hz ⊢; omega) fun y hy => h y (List.mem_cons_of_mem _ hy)
    have hz2 : acc.length < sizeLine := by simp at hz; omega
    refine ⟨d :: ds, μ2, ?_, d1.trans d2, by simp [hl], fun y hy => ?_⟩
    · simp only [compL, p1, Option.bind_some, hk, noE, e1, if_pos hz2, e2]
      simp
    · rcases List.mem_cons.mp hy with rfl | hy
      · exact q1
      · exact hq y hy
theorem in_when {μ : List Mo} (w : When) : Op.do .in_ μ w.d (.lst [.str "card", .str "hole", .str "plain"]) = some (.bl w.cardy) := by
  cases w <;> kernel_rfl
theorem rg_src {nc : Nat} {w : When} : ∀ x ∈ rgD 0 nc, ∃ s : Src, x = s.d ∧ s.ok nc w := by
  intro x hx
  unfold rgD at hx
  obtain ⟨i, hi, rfl⟩ := List.mem_map.mp hx
  rw [List.mem_range] at hi
  exact ⟨.c i, by simp [Src.d], by show i < nc; omega⟩
/-- the sources that there are -/
def srcL (nc : Nat) (w : When) : List D := rgD 0 nc ++ if w.cardy = true then [.str "x", .str "y", .str "x"] else []
theorem srcL_ok {nc : Nat} {w : When} : ∀ x ∈ srcL nc w, ∃ s : Src, x = s.d ∧ s.ok nc w := by
  intro x hx
  unfold srcL at hx
  rcases List.mem_append.mp hx with hx | hx
  · exact rg_src x hx
  · split at hx
    · rename_i hc
      simp at hx
      rcases hx with rfl | rfl | rfl
      · exact ⟨.x, rfl, hc⟩
      · exact ⟨.y, rfl, hc⟩
      · exact ⟨.x, rfl, hc⟩
    · simp at hx
theorem srcL_len {nc : Nat} {w : When} (h : nc ≤ 3) : (srcL nc w).length ≤ 6 := by
  unfold srcL rgD
  simp
  split <;> simp <;> omega
theorem ok_str (x : Str) (n : Nat) (h : PyData.strOk x = true) : okN n (.str x) = true := by cases n <;> simpa [okN] using h
theorem ok_src (n : Nat) (s : Src) : okN n s.d = true := by
  cases s with
  | x => exact ok_str _ _ (by decide +kernel)
  | y => exact ok_str _ _ (by decide +kernel)
  | c i => cases n <;> rfl
theorem ok_srcL {nc : Nat} {w : When} {n : Nat} : okNs n (srcL nc w) = true := okNs_all fun x hx => by
  obtain ⟨s, rfl, _⟩ := srcL_ok x hx
  exact ok_src n s
theorem srcs_of {nc : Nat} {w : When} : ∀ {ds : List D}, (∀ d ∈ ds, ∃ s : Src, d = s.d ∧ s.ok nc w) → ∃ ss : List Src, ds = ss.map Src.d ∧ ∀ s ∈ ss, s.ok nc w
  | [], _ => ⟨[], rfl, by simp⟩
  | d :: ds, h => by
    obtain ⟨s, rfl, hs⟩ := h d List.mem_cons_self
    obtain ⟨ss, rfl, hss⟩ := srcs_of fun d hd => h d (List.mem_cons_of_mem _ hd)
    exact ⟨s :: ss, rfl, fun t ht => (List.mem_cons.mp ht).elim (fun e => e ▸ hs) (hss t)⟩
def dropS : Nat → Ss → Ss
  | 0, s => s
  | n + 1, .cons _ s => dropS n s
  | _ + 1, .nil => .nil
/-- an action, or none -/
def ActQ (nc ns : Nat) (w : When) (d : D) : Prop := d = .tup [] ∨ ∃ a : Act, d = a.d ∧ a.ok nc ns w
/-- what is returned is drawn from n and so -/
def Gives (n : Nat) (μ : List Mo) (Q : D → Prop) (r : RM D) : Prop := ∃ d μ', r = some (.ok d, μ') ∧ Dn n μ μ' ∧ Q d
theorem Gives.of {n : Nat} {μ μ1 : List Mo} {Q : D → Prop} {r : RM D} (h : Gives n μ1 Q r) (d : Dn n μ μ1) : Gives n μ Q r := by
  obtain ⟨x, μ', e, d', q⟩ := h
  exact ⟨x, μ', e, d.trans d', q⟩
section
variable {n nc ns : Nat} {μ : List Mo} {w : When} {S : List D} {way : Int}
/-- the names in _law_act -/
def actE (n nc ns : Nat) (w : When) (S : List D) (way : Int) : List Sl := [.d (.obj n), .d (.tup [.int nc, .int ns]), .d w.d, .d (.int nc), .d (.int ns), .d (.lst S), .d (.int way), .un, .un, .un]
theorem act7 (v : Vat μ n) (nS : S ≠ []) (lS : S.length ≤ 6) (mS : ∀ x ∈ S, ∃ s : Src, x = s.d ∧ s.ok nc w) : Gives n μ (ActQ nc ns w) (fin (exs (dropS 7 B__law_act) (actE n nc ns w S way) μ)) := by
  obtain ⟨m, hm, μ2, e2, d2⟩ := some_spec (xs := [.int 1, .int 1, .int 2, .int 3]) v (by simp) (by simp)
  have hm : m = .int 1 ∨ m = .int 2 ∨ m = .int 3 := by simpa using hm
  obtain ⟨k, hk, k1, k3⟩ : ∃ k : Nat, m = .int k ∧ 1 ≤ k ∧ k ≤ 3 := by
    rcases hm with rfl | rfl | rfl
    · exact ⟨1, rfl, by omega, by omega⟩
    · exact ⟨2, rfl, by omega, by omega⟩
    · exact ⟨3, rfl, by omega, by omega⟩
  subst hk
  have hrk : rgOk 0 (k : Int) = true := by unfold rgOk; simp; omega
  have lrk : (rgD 0 (k : Int)).length = k := by unfold rgD; simp
  obtain ⟨ds, μ3, e3, d3, l3, q3⟩ := comp_draw (n := n) (tg := .name 9) (keep := ev (.con (.bl true))) (elt := ev (.call F_law_some (.cons (.var 0) (.cons (.var 5) .nil)))) (δ := [.d (.obj n), .d (.tup [.int nc, .int ns]), .d w.d, .d (.int nc), .d (.int ns), .d (.lst S), .d (.int way), .un, .d (.int k), .un]) (Q := fun d => ∃ s : Src, d = s.d ∧ s.ok nc w) (fun δ μ => by simp) (rgD 0 k) [] μ2 d2.vat (by rw [lrk, szL]; show 0 + k ≤ _; omega) (fun x hx => ⟨_, rfl, fun μ v => by
    obtain ⟨d, hd, μ', e, dn⟩ := some_spec (xs := S) v nS (by omega)
    exact ⟨d, μ', by simp [e], dn, mS d hd⟩⟩)
  obtain ⟨ss, rfl, hss⟩ := srcs_of q3
  have hk : ss.length = k := by rw [← lrk, ← l3]; simp
  have ht : (Bi.tuple).do μ3 [.lst (ss.map Src.d)] = some (.tup (ss.map Src.d)) := by simp
  refine ⟨.tup [.str "print", .tup (ss.map Src.d)], μ3, ?_, d2.trans d3, .inr ⟨.print ss, rfl, by omega, by omega, hss⟩⟩
  rw [List.nil_append] at e3
  simp [actE, dropS, B__law_act, szL, e2, hrk, kcomp, wipeS, e3]
theorem act6 (v : Vat μ n) (okS : okNs 63 S = true) (lS : S.length ≤ 6) (mS : ∀ x ∈ S, ∃ s : Src, x = s.d ∧ s.ok nc w) : Gives n μ (ActQ nc ns w) (fin (exs (dropS 6 B__law_act) (actE n nc ns w S way) μ)) := by
  by_cases nS : S = []
  · subst nS
    exact ⟨.tup [], μ, by simp [actE, dropS, B__law_act, szL, eq_lnil (μ := μ) (xs := []) rfl], v.dn, .inl rfl⟩
  · have nSe : S.isEmpty = false := by cases S <;> simp at nS ⊢
    have e : exs (dropS 6 B__law_act) (actE n nc ns w S way) μ = exs (dropS 7 B__law_act) (actE n nc ns w S way) μ := by
      simp [actE, dropS, B__law_act, szL, eq_lnil okS, nSe]
    rw [e]
    exact act7 v nS lS mS
theorem act5 (hs : ns ≤ 2) (v : Vat μ n) (okS : okNs 63 S = true) (lS : S.length ≤ 6) (mS : ∀ x ∈ S, ∃ s : Src, x = s.d ∧ s.ok nc w) : Gives n μ (ActQ nc ns w) (fin (exs (dropS 5 B__law_act) (actE n nc ns w S way) μ)) := by
  by_cases h6 : 0 < ns ∧ way < 7
  · have hs' : (0 : Int) < ns := by omega
    obtain ⟨i, μ2, e2, d2, i0, i1⟩ := under_spec (m := (ns : Int)) v hs' (by omega)
    obtain ⟨k, μ3, e3, d3, _, _⟩ := under_spec (m := 3) d2.vat (by decide) (by decide)
    have ei : (i.toNat : Int) = i := by omega
    exact ⟨.tup [.str "set", .int i, .bl (decide (0 < k))], μ3, by simp [actE, dropS, B__law_act, h6.1, h6.2, e2, e3, szL], d2.trans d3, .inr ⟨.set i.toNat (decide (0 < k)), by simp [Act.d, ei], by show _ < ns; omega⟩⟩
  · have e : exs (dropS 5 B__law_act) (actE n nc ns w S way) μ = exs (dropS 6 B__law_act) (actE n nc ns w S way) μ := by
      by_cases hn : 0 < ns
      · have h7 : ¬ way < 7 := fun z => h6 ⟨hn, z⟩
        simp [actE, dropS, B__law_act, hn, h7]
      · simp [actE, dropS, B__law_act, hn]
    rw [e]
    exact act6 v okS lS mS
theorem act4 (hc : nc ≤ 3) (hs : ns ≤ 2) (v : Vat μ n) (okS : okNs 63 S = true) (lS : S.length ≤ 6) (mS : ∀ x ∈ S, ∃ s : Src, x = s.d ∧ s.ok nc w) : Gives n μ (ActQ nc ns w) (fin (exs (dropS 4 B__law_act) (actE n nc ns w S way) μ)) := by
  by_cases h6 : 0 < nc ∧ way = 4
  · have hn' : (0 : Int) < nc := by omega
    obtain ⟨i, μ2, e2, d2, i0, i1⟩ := under_spec (m := (nc : Int)) v hn' (by omega)
    have ei : (i.toNat : Int) = i := by omega
    exact ⟨.tup [.str "clear", .int i], μ2, by simp [actE, dropS, B__law_act, h6.1, h6.2, e2, szL], d2, .inr ⟨.clear i.toNat, by simp [Act.d, ei], by show _ < nc; omega⟩⟩
  · have e : exs (dropS 4 B__law_act) (actE n nc ns w S way) μ = exs (dropS 5 B__law_act) (actE n nc ns w S way) μ := by
      by_cases hn : 0 < nc
      · have h7 : ¬ way = 4 := fun z => h6 ⟨hn, z⟩
        simp [actE, dropS, B__law_act, hn, h7]
      · simp [actE, dropS, B__law_act, hn]
    rw [e]
    exact act5 hs v okS lS mS
theorem act3 (hc : nc ≤ 3) (hs : ns ≤ 2) (v : Vat μ n) (hS : srcL nc w = S) (okS : okNs 63 S = true) (lS : S.length ≤ 6) (mS : ∀ x ∈ S, ∃ s : Src, x = s.d ∧ s.ok nc w) : Gives n μ (ActQ nc ns w) (fin (exs (dropS 3 B__law_act) (actE n nc ns w S way) μ)) := by
  by_cases h6 : 0 < nc ∧ way < 4
  · have hn' : (0 : Int) < nc := by omega
    have nS : S ≠ [] := by rw [← hS]; unfold srcL rgD; simp; omega
    obtain ⟨wd, hw, μ2, e2, d2⟩ := some_spec (xs := [.str "add", .str "add", .str "less"]) v (by simp) (by simp)
    obtain ⟨sc, hsc, μ3, e3, d3⟩ := some_spec (xs := S) d2.vat nS (by omega)
    obtain ⟨i, μ4, e4, d4, i0, i1⟩ := under_spec (m := (nc : Int)) d3.vat hn' (by omega)
    obtain ⟨s, rfl, hs2⟩ := mS sc hsc
    refine ⟨.tup [wd, s.d, .int i], μ4, by simp [actE, dropS, B__law_act, h6.1, h6.2, e2, e3, e4, szL], (d2.trans d3).trans d4, .inr ?_⟩
    have ei : (i.toNat : Int) = i := by omega
    have hw : wd = .str "add" ∨ wd = .str "less" := by simpa using hw
    rcases hw with rfl | rfl
    · exact ⟨.add false s i.toNat, by simp [Act.d, ei], hs2, by omega⟩
    · exact ⟨.add true s i.toNat, by simp [Act.d, ei], hs2, by omega⟩
  · have e : exs (dropS 3 B__law_act) (actE n nc ns w S way) μ = exs (dropS 4 B__law_act) (actE n nc ns w S way) μ := by
      by_cases hn : 0 < nc
      · have h7 : ¬ way < 4 := fun z => h6 ⟨hn, z⟩
        simp [actE, dropS, B__law_act, hn, h7]
      · simp [actE, dropS, B__law_act, hn]
    rw [e]
    exact act4 hc hs v okS lS mS
theorem act_spec (v : Vat μ n) (hc : nc ≤ 3) (hs : ns ≤ 2) : Gives n μ (ActQ nc ns w) (F_law_act [.obj n, .tup [.int nc, .int ns], w.d] μ) := by
  obtain ⟨way, μ1, e1, d1, w0, w1⟩ := under_spec (m := 9) v (by decide) (by decide)
  have hrg : (nc : Int) ≤ 16777216 := by omega
  have hs3 : ((rgD 0 nc).length + 3 ≤ 16777216) := by unfold rgD; simp; omega
  obtain ⟨S, hS⟩ : ∃ S, srcL nc w = S := ⟨_, rfl⟩
  have pre : F_law_act [.obj n, .tup [.int nc, .int ns], w.d] μ = fin (exs (dropS 3 B__law_act) (actE n nc ns w S way) μ1) := by
    cases hcd : w.cardy with
    | true =>
      have hS1 : rgD 0 nc ++ [.str "x", .str "y", .str "x"] = S := by rw [← hS]; unfold srcL; rw [if_pos hcd]
      simp [F_law_act, B__law_act, go, hrg, e1, in_when, hcd, hs3, szL, hS1]
      simp [actE, dropS]
    | false =>
      have hS0 : rgD 0 nc = S := by rw [← hS]; unfold srcL; rw [hcd]; simp
      simp [F_law_act, B__law_act, go, hrg, e1, in_when, hcd, szL]
      rw [hS0]
      simp [actE, dropS]
  rw [pre]
  exact (act3 hc hs d1.vat hS (by rw [← hS]; exact ok_srcL) (by rw [← hS]; exact srcL_len hc) (by rw [← hS]; exact srcL_ok)).of d1
end
end Dr
set_option Elab.async false
set_option linter.all false
set_option maxRecDepth 100000
set_option maxHeartbeats 4000000
/-! Drc: wires, boards, sources, decks that the laws draw. -/
namespace Dr
open PySem L2 Mi Pg Ev
theorem ok_int (n : Nat) (i : Int) : okN n (.int i) = true := by cases n <;> rfl
theorem ok_bl (n : Nat) (b : Bool) : okN n (.bl b) = true := by cases n <;> rfl
theorem ok_non (n : Nat) : okN n .non = true := by cases n <;> rfl
theorem ok_srcs (n : Nat) (ss : List Src) : okNs n (ss.map Src.d) = true := okNs_all fun x hx => by
  obtain ⟨s, _, rfl⟩ := List.mem_map.mp hx
  exact ok_src n s
theorem ok_act (n : Nat) (a : Act) : okN (n + 2) a.d = true := by
  cases a with
  | add l s i => cases l <;> simp [Act.d, okN, okNs, ok_src, ok_int] <;> decide +kernel
  | clear i => simp [Act.d, okN, okNs, ok_int]; decide +kernel
  | set i b => simp [Act.d, okN, okNs, ok_int, ok_bl]; decide +kernel
  | print ss => simp [Act.d, okN, okNs, ok_srcs]; decide +kernel
theorem ok_when (n : Nat) (w : When) : okN n w.d = true := by cases w <;> exact ok_str _ _ (by decide +kernel)
theorem ok_sw (n : Nat) (s : Option (Nat × Bool)) : okN (n + 1) (swD s) = true := by
  rcases s with _ | ⟨i, b⟩
  · rfl
  · simp [swD, okN, okNs, ok_int, ok_bl]
theorem ok_wire (n : Nat) (w : Wire) : okN (n + 3) w.d = true := by
  simp [Wire.d, okN, okNs, ok_when, ok_act n]
  exact ok_sw (n + 1) w.sw
theorem Act.ne (a : Act) : ∃ x xs, a.d = .tup (x :: xs) := by cases a <;> exact ⟨_, _, rfl⟩
/-- a wire, or none -/
def WireQ (nc ns : Nat) (d : D) : Prop := d = .tup [] ∨ ∃ a : Wire, d = a.d ∧ a.ok nc ns
theorem whens : ∀ x ∈ [D.str "card", .str "card", .str "hole", .str "plain", .str "minor", .str "minor", .str "major"], ∃ w : When, x = w.d := by
  intro x hx
  simp at hx
  rcases hx with rfl | rfl | rfl | rfl | rfl
  · exact ⟨.card, rfl⟩
  · exact ⟨.hole, rfl⟩
  · exact ⟨.plain, rfl⟩
  · exact ⟨.minor, rfl⟩
  · exact ⟨.major, rfl⟩
section
variable {n nc ns : Nat} {μ : List Mo}
theorem wire_spec (v : Vat μ n) (hc : nc ≤ 3) (hs : ns ≤ 2) : Gives n μ (WireQ nc ns) (F_law_wire [.obj n, .tup [.int nc, .int ns]] μ) := by
  obtain ⟨w, hw, μ1, e1, d1⟩ := some_spec (xs := [D.str "card", .str "card", .str "hole", .str "plain", .str "minor", .str "minor", .str "major"]) v (by simp) (by simp)
  obtain ⟨w, rfl⟩ := whens w hw
  obtain ⟨a, μ2, e2, d2, qa⟩ := act_spec (w := w) d1.vat hc hs
  -- the end of the def
  have last : ∀ (sw : Option (Nat × Bool)) (μ3 : List Mo), Dn n μ μ3 → (∀ i b, sw = some (i, b) → i < ns) → Gives n μ (WireQ nc ns) (fin (exs (dropS 3 B__law_wire) [.d (.obj n), .d (.tup [.int nc, .int ns]), .d w.d, .d (swD sw), .d a] μ3)) := fun sw μ3 d3 hsw => by
    rcases qa with rfl | ⟨a, rfl, ha⟩
    · exact ⟨.tup [], μ3, by simp [dropS, B__law_wire, eq_tnil (xs := []) (by rfl), szL], d3, .inl rfl⟩
    · obtain ⟨x, xs, hx⟩ := a.ne
      have ho := ok_act 62 a
      have he : eqD μ3 a.d (.tup []) = some false := by
        rw [hx] at ho ⊢
        exact eq_tnil (by simpa [okN] using ho)
      exact ⟨.tup [w.d, swD sw, a.d], μ3, by simp [dropS, B__law_wire, he, szL], d3, .inr ⟨⟨w, sw, a⟩, rfl, hsw, ha⟩⟩
  by_cases hn : 0 < ns
  · obtain ⟨k, μ3, e3, d3, k0, k1⟩ := under_spec (m := 3) d2.vat (by decide) (by decide)
    by_cases hk : k = 0
    · have hs' : (0 : Int) < ns := by omega
      obtain ⟨i, μ4, e4, d4, i0, i1⟩ := under_spec (m := (ns : Int)) d3.vat hs' (by omega)
      obtain ⟨b, μ5, e5, d5, b0, b1⟩ := under_spec (m := 2) d4.vat (by decide) (by decide)
      have ei : (i.toNat : Int) = i := by omega
      have h := last (some (i.toNat, decide (b = 0))) μ5 ((((d1.trans d2).trans d3).trans d4).trans d5) (by intro i' b' h; simp at h; omega)
      have e : F_law_wire [.obj n, .tup [.int nc, .int ns]] μ = fin (exs (dropS 3 B__law_wire) [.d (.obj n), .d (.tup [.int nc, .int ns]), .d w.d, .d (swD (some (i.toNat, decide (b = 0)))), .d a] μ5) := by
        subst hk
        simp [F_law_wire, B__law_wire, go, e1, e2, hn, e3, e4, e5, szL, swD, ei, dropS]
      rw [e]
      exact h
    · have h := last none μ3 ((d1.trans d2).trans d3) (by simp)
      have e : F_law_wire [.obj n, .tup [.int nc, .int ns]] μ = fin (exs (dropS 3 B__law_wire) [.d (.obj n), .d (.tup [.int nc, .int ns]), .d w.d, .d (swD none), .d a] μ3) := by
        simp [F_law_wire, B__law_wire, go, e1, e2, hn, e3, hk, szL, swD, dropS]
      rw [e]
      exact h
  · have h := last none μ2 (d1.trans d2) (by simp)
    have e : F_law_wire [.obj n, .tup [.int nc, .int ns]] μ = fin (exs (dropS 3 B__law_wire) [.d (.obj n), .d (.tup [.int nc, .int ns]), .d w.d, .d (swD none), .d a] μ2) := by
      simp [F_law_wire, B__law_wire, go, e1, e2, hn, szL, swD, dropS]
    rw [e]
    exact h
/-- those that are wires -/
theorem keep_wires : ∀ (ds : List D) (acc : List Wire) (μ : List Mo) (δ : List Sl) (hδ : δ.length = 6), acc.length + ds.length ≤ sizeLine → (∀ d ∈ ds, WireQ nc ns d) → (∀ w ∈ acc, w.ok nc ns) →
    ∃ ws : List Wire, compL (.name 5) (ev (.op .ne (.var 5) (.tup .nil))) (ev (.var 5)) δ ds (acc.map Wire.d) μ = some (.ok (.lst (ws.map Wire.d)), μ) ∧ ws.length ≤ acc.length + ds.length ∧ ∀ w ∈ ws, w.ok nc ns
  | [], acc, μ, δ, _, _, _, ha => ⟨acc, by simp [compL, retR], by simp, ha⟩
  | d :: ds, acc, μ, δ, hδ, hz, hq, ha => by
    have h5 : (δ.set 5 (.d d))[5]? = some (.d d) := by rw [List.getElem?_set_self (by omega)]
    rcases hq d List.mem_cons_self with rfl | ⟨w, rfl, hw⟩
    · obtain ⟨ws, e, hl, ho⟩ := keep_wires ds acc μ δ hδ (by simp at hz; omega) (fun y hy => hq y (List.mem_cons_of_mem _ hy)) ha
      refine ⟨ws, ?_, by simp; omega, ho⟩
      simp [compL, h5, eq_tnil (xs := []) (by rfl), szL, noE, e]
    · obtain ⟨ws, e, hl, ho⟩ := keep_wires ds (acc ++ [w]) μ δ hδ (by simp at hz ⊢; omega) (fun y hy => hq y (List.mem_cons_of_mem _ hy)) (by
        intro y hy
        rcases List.mem_append.mp hy with hy | hy
        · exact ha y hy
        · rw [List.mem_singleton.mp hy]; exact hw)
      refine ⟨ws, ?_, by simp at hl ⊢; omega, ho⟩
      have ho := ok_wire 61 w
      have he : eqD μ w.d (.tup []) = some false := by
        unfold Wire.d at ho ⊢
        exact eq_tnil (by simpa [okN] using ho)
      have hz2 : acc.length < 16777216 := by rw [szL] at hz; simp at hz; omega
      simp at e
      simp [compL, h5, he, szL, noE, hz2, e]
/-- a board of no more wires than the law says -/
def BoardQ (k : Nat) (d : D) : Prop := ∃ b : Board, d = b.d ∧ b.nc ≤ 2 ∧ b.ns ≤ 1 ∧ b.ws.length ≤ k ∧ ∀ w ∈ b.ws, w.ok b.nc b.ns
theorem board_spec {k : Nat} (v : Vat μ n) (hk : k ≤ 1000) : Gives n μ (BoardQ k) (F_law_board [.obj n, .int k] μ) := by
  obtain ⟨c, hc, μ1, e1, d1⟩ := some_spec (xs := [.int 0, .int 1, .int 1, .int 2, .int 2]) v (by simp) (by simp)
  obtain ⟨s, hs, μ2, e2, d2⟩ := some_spec (xs := [.int 0, .int 0, .int 1]) d1.vat (by simp) (by simp)
  obtain ⟨nc, hnc, c2⟩ : ∃ nc : Nat, c = .int nc ∧ nc ≤ 2 := by
    simp at hc
    rcases hc with rfl | rfl | rfl
    · exact ⟨0, rfl, by omega⟩
    · exact ⟨1, rfl, by omega⟩
    · exact ⟨2, rfl, by omega⟩
  obtain ⟨ns, hns, s2⟩ : ∃ ns : Nat, s = .int ns ∧ ns ≤ 1 := by
    simp at hs
    rcases hs with rfl | rfl
    · exact ⟨0, rfl, by omega⟩
    · exact ⟨1, rfl, by omega⟩
  subst hnc hns
  obtain ⟨m, μ3, e3, d3, m0, m1⟩ := under_spec (m := (k : Int) + 1) d2.vat (by omega) (by omega)
  have hrk : rgOk 0 m = true := by unfold rgOk; simp; omega
  have lrk : (rgD 0 m).length = m.toNat := by unfold rgD; simp
  obtain ⟨ds, μ4, e4, d4, l4, q4⟩ := comp_draw (n := n) (tg := .name 4) (keep := ev (.con (.bl true))) (elt := ev (.call F_law_wire (.cons (.var 0) (.cons (.var 2) .nil)))) (δ := [.d (.obj n), .d (.int k), .d (.tup [.int nc, .int ns]), .un, .un, .un]) (Q := WireQ nc ns) (fun δ μ => by simp) (rgD 0 m) [] μ3 d3.vat (by rw [lrk, szL]; show 0 + _ ≤ _; omega) (fun x hx => ⟨_, rfl, fun μ v => by
    obtain ⟨d, μ', e, dn, q⟩ := wire_spec v (by omega : nc ≤ 3) (by omega : ns ≤ 2)
    exact ⟨d, μ', by simp [e], dn, q⟩⟩)
  rw [List.nil_append] at e4
  obtain ⟨ws, e5, l5, q5⟩ := keep_wires ds [] μ4 [.d (.obj n), .d (.int k), .d (.tup [.int nc, .int ns]), .d (.lst ds), .un, .un] rfl (by rw [l4, lrk, szL]; show 0 + _ ≤ _; omega) q4 (by simp)
  refine ⟨(⟨nc, ns, ws⟩ : Board).d, μ4, ?_, ((d1.trans d2).trans d3).trans d4, ⟨nc, ns, ws⟩, rfl, c2, s2, ?_, q5⟩
  · simp [F_law_board, B__law_board, go, e1, e2, e3, hrk, kcomp, wipeS, e4, szL]
    simp at e5
    simp [e5, Board.d, szL]
  · show ws.length ≤ k
    rw [l4, lrk] at l5
    simp at l5
    omega
end
end Dr
set_option Elab.async false
set_option linter.all false
set_option maxRecDepth 100000
set_option maxHeartbeats 4000000
/-! Ise: boards that are boards. -/
namespace Dr
open PySem L2 Mi Pg Ev
section
variable {μ : List Mo} {i : Int} {xs : List D} {b : Bool} {z : Str}
@[simp] theorem isi_ii : Bi.do .isi μ [.int i, .ty "int"] = some (.bl true) := nr rfl
@[simp] theorem isi_ib : Bi.do .isi μ [.int i, .ty "bool"] = some (.bl false) := nr rfl
@[simp] theorem isi_is : Bi.do .isi μ [.int i, .ty "str"] = some (.bl false) := nr rfl
@[simp] theorem isi_ss : Bi.do .isi μ [.str z, .ty "str"] = some (.bl true) := nr rfl
@[simp] theorem isi_tt : Bi.do .isi μ [.tup xs, .ty "tuple"] = some (.bl true) := nr rfl
@[simp] theorem isi_bb : Bi.do .isi μ [.bl b, .ty "bool"] = some (.bl true) := nr rfl
theorem whole_ok {a b : Int} (h1 : a ≤ i) (h2 : i ≤ b) : Fis_whole [.int i, .int a, .int b] μ = some (.ok (.bl true), μ) := by
  simp [Fis_whole, B_is_whole, go, h1, h2]
end
section
variable {μ : List Mo} {nc ns : Nat} {r : D} {w : When}
theorem in_xy : Op.do .in_ μ (.str "x") (.tup [.str "x", .str "y"]) = some (.bl true) := by kernel_rfl
theorem in_xy2 : Op.do .in_ μ (.str "y") (.tup [.str "x", .str "y"]) = some (.bl true) := by kernel_rfl
theorem nin_mm : Op.do .nin μ w.d (.tup [.str "minor", .str "major"]) = some (.bl w.cardy) := by cases w <;> kernel_rfl
theorem source_ok {s : Src} (h : s.ok nc w) : Fis_source [.tup [.int nc, .int ns, r], w.d, s.d] μ = some (.ok (.bl true), μ) := by
  cases s with
  | x =>
    have h : w.cardy = true := h
    simp [Fis_source, B_is_source, go, Src.d, in_xy, nin_mm, h, szL]
  | y =>
    have h : w.cardy = true := h
    simp [Fis_source, B_is_source, go, Src.d, in_xy2, nin_mm, h, szL]
  | c i =>
    have h : i < nc := h
    simp [Fis_source, B_is_source, go, Src.d, szL, whole_ok (μ := μ) (show (0 : Int) ≤ i by omega) (show (i : Int) ≤ nc - 1 by omega)]
theorem comp_none {tg : Tg} {keep elt : List Sl → List Mo → RM D} {δ : List Sl} : ∀ (xs : List D), (∀ x ∈ xs, ∃ δ1, tg.put x δ = some δ1 ∧ keep δ1 μ = some (.ok (.bl false), μ)) → compL tg keep elt δ xs [] μ = some (.ok (.lst []), μ)
  | [], _ => by simp [compL, retR]
  | x :: xs, h => by
    obtain ⟨δ1, p, k⟩ := h x List.mem_cons_self
    simp [compL, p, k, noE, comp_none xs fun y hy => h y (List.mem_cons_of_mem _ hy)]
theorem printing_ok {ss : List Src} (h1 : 1 ≤ ss.length) (h3 : ss.length ≤ 3) (h : ∀ s ∈ ss, s.ok nc w) : Fis_printing [.tup [.int nc, .int ns, r], w.d, .tup (ss.map Src.d)] μ = some (.ok (.bl true), μ) := by
  have k1 : decide ((1 : Int) ≤ ss.length) = true := by simp; omega
  have k3 : decide ((ss.length : Int) ≤ 3) = true := by simp; omega
  have e := comp_none (μ := μ) (tg := .name 3) (keep := ev (.not_ (.call Fis_source (.cons (.var 0) (.cons (.var 1) (.cons (.var 3) .nil)))))) (elt := ev (.var 3)) (δ := [.d (.tup [.int nc, .int ns, r]), .d w.d, .d (.tup (ss.map Src.d)), .un]) (ss.map Src.d) (fun x hx => by
    obtain ⟨s, hs, rfl⟩ := List.mem_map.mp hx
    exact ⟨_, rfl, by simp [source_ok (h s hs)]⟩)
  simp [Fis_printing, B_is_printing, go, k1, k3, kcomp, wipeS, e, szL, eq_lnil (xs := []) rfl]
theorem hd_ne {x : D} {xs : List D} (h : okN 64 (.tup (x :: xs)) = true) : eqD μ (.tup (x :: xs)) (.tup []) = some false := by
  rw [eq_tnil (by simpa [okN] using h)]; rfl
theorem in_al (l : Bool) : Op.do .in_ μ (.str (if l = true then "less" else "add")) (.tup [.str "add", .str "less"]) = some (.bl true) := by cases l <;> kernel_rfl
theorem in_cl : Op.do .in_ μ (.str "clear") (.tup [.str "add", .str "less"]) = some (.bl false) := by kernel_rfl
theorem in_se : Op.do .in_ μ (.str "set") (.tup [.str "add", .str "less"]) = some (.bl false) := by kernel_rfl
theorem in_pr : Op.do .in_ μ (.str "print") (.tup [.str "add", .str "less"]) = some (.bl false) := by kernel_rfl
theorem eq_cc : eqD μ (.str "clear") (.str "clear") = some true := by kernel_rfl
theorem eq_sc : eqD μ (.str "set") (.str "clear") = some false := by kernel_rfl
theorem eq_pc : eqD μ (.str "print") (.str "clear") = some false := by kernel_rfl
theorem eq_ss : eqD μ (.str "set") (.str "set") = some true := by kernel_rfl
theorem eq_ps : eqD μ (.str "print") (.str "set") = some false := by kernel_rfl
theorem eq_pp : eqD μ (.str "print") (.str "print") = some true := by kernel_rfl
theorem action_ok {a : Act} (h : a.ok nc ns w) : Fis_action [.tup [.int nc, .int ns, r], w.d, a.d] μ = some (.ok (.bl true), μ) := by
  have ho : okN 64 a.d = true := ok_act 62 a
  cases a with
  | add l s i =>
    obtain ⟨h1, h2⟩ : s.ok nc w ∧ i < nc := h
    simp only [Act.d] at ho
    simp [Fis_action, B_is_action, go, Act.d, hd_ne ho, in_al, szL, source_ok h1, whole_ok (μ := μ) (show (0 : Int) ≤ i by omega) (show (i : Int) ≤ nc - 1 by omega)]
  | clear i =>
    have h2 : i < nc := h
    simp only [Act.d] at ho
    simp [Fis_action, B_is_action, go, Act.d, hd_ne ho, in_cl, eq_cc, szL, whole_ok (μ := μ) (show (0 : Int) ≤ i by omega) (show (i : Int) ≤ nc - 1 by omega)]
  | set i b =>
    have h2 : i < ns := h
    simp only [Act.d] at ho
    simp [Fis_action, B_is_action, go, Act.d, hd_ne ho, in_se, eq_sc, eq_ss, szL, whole_ok (μ := μ) (show (0 : Int) ≤ i by omega) (show (i : Int) ≤ ns - 1 by omega)]
  | print ss =>
    obtain ⟨h1, h2, h3⟩ : 1 ≤ ss.length ∧ ss.length ≤ 3 ∧ ∀ s ∈ ss, s.ok nc w := h
    simp only [Act.d] at ho
    simp [Fis_action, B_is_action, go, Act.d, hd_ne ho, in_pr, eq_pc, eq_ps, eq_pp, szL, printing_ok h1 h2 h3]
theorem word_ok : Fis_word [w.d, .tup [.str "card", .str "hole", .str "plain", .str "minor", .str "major"]] μ = some (.ok (.bl true), μ) := by
  have hi : Bi.do .isi μ [w.d, .ty "str"] = some (.bl true) := by cases w <;> kernel_rfl
  have hn : Op.do .in_ μ w.d (.tup [.str "card", .str "hole", .str "plain", .str "minor", .str "major"]) = some (.bl true) := by cases w <;> kernel_rfl
  simp [Fis_word, B_is_word, go, hi, hn]
theorem wire_ok {a : Wire} (h : a.ok nc ns) : Fis_wire [.tup [.int nc, .int ns, r], a.d] μ = some (.ok (.bl true), μ) := by
  obtain ⟨w, sw, a⟩ := a
  obtain ⟨h1, h2⟩ := h
  have h2 : a.ok nc ns w := h2
  rcases sw with _ | ⟨i, b⟩
  · simp [Fis_wire, B_is_wire, go, Wire.d, swD, word_ok, action_ok h2]
  · have h1 : i < ns := h1 i b rfl
    simp [Fis_wire, B_is_wire, go, Wire.d, swD, word_ok, action_ok h2, whole_ok (μ := μ) (show (0 : Int) ≤ i by omega) (show (i : Int) ≤ ns - 1 by omega)]
theorem board_ok {b : Board} (h : b.ok) : Fis_board [b.d] μ = some (.ok (.bl true), μ) := by
  have l := h.l
  have hl : decide ((8 : Int) < b.ws.length) = false := by simp; omega
  have e := comp_none (μ := μ) (tg := .name 1) (keep := ev (.not_ (.call Fis_wire (.cons (.var 0) (.cons (.var 1) .nil))))) (elt := ev (.var 1)) (δ := [.d b.d, .un]) (b.ws.map Wire.d) (fun x hx => by
    obtain ⟨s, hs, rfl⟩ := List.mem_map.mp hx
    exact ⟨_, rfl, by simp [Board.d, wire_ok (h.w s hs)]⟩)
  simp only [Board.d] at e
  have hc := h.c
  have hs := h.s
  simp [Fis_board, B_is_board, go, Board.d, whole_ok (μ := μ) (show (0 : Int) ≤ b.nc by omega) (show (b.nc : Int) ≤ 3 by omega), whole_ok (μ := μ) (show (0 : Int) ≤ b.ns by omega) (show (b.ns : Int) ≤ 2 by omega), hl, kcomp, wipeS, e, szL, eq_lnil (xs := []) rfl]
theorem need_board_ok {b : Board} (h : b.ok) : Fneed_board [b.d] μ = some (.ok .non, μ) := by
  simp [Fneed_board, B_need_board, go, board_ok h]
end
end Dr
set_option Elab.async false
set_option linter.all false
set_option maxRecDepth 100000
set_option maxHeartbeats 4000000
/-! Wrt: boards written as texts. -/
namespace Dr
open PySem L2 Mi Pg Ev
/-- the signs of a number -/
def dg (i : Nat) : Str := Str.ofString (toString (i : Int))
def Src.t : Src → Str
  | .x => "x"
  | .y => "y"
  | .c i => dg i
def When.t : When → Str
  | .card => "card"
  | .hole => "hole"
  | .plain => "plain"
  | .minor => "minor"
  | .major => "major"
def Act.ws : Act → List Str
  | .add l s i => [if l = true then "less" else "add", s.t, dg i]
  | .clear i => ["clear", dg i]
  | .set i b => [if b = true then "on" else "off", dg i]
  | .print ss => "print" :: ss.map Src.t
def swW : Option (Nat × Bool) → List Str
  | none => []
  | some (i, b) => [if b = true then "if" else "unless", dg i]
def Wire.ws (w : Wire) : List Str := [w.when.t] ++ swW w.sw ++ w.act.ws
def Wire.t (w : Wire) : Str := Txt.join " " w.ws
def Board.hd (b : Board) : Str := "board " ++ dg b.nc ++ " " ++ dg b.ns
def Board.ls (b : Board) : List Str := b.hd :: b.ws.map Wire.t
def Board.t (b : Board) : Str := Txt.join "\n" b.ls
/-! ### numbers and sources as texts -/
section
variable {μ : List Mo} {nc ns : Nat}
/-- a comprehension whose items are told one by one -/
theorem comp_map {α : Type} {f g : α → D} {tg : Tg} {keep elt : List Sl → List Mo → RM D} {δ : List Sl} (hk : ∀ δ μ, keep δ μ = some (.ok (.bl true), μ)) : ∀ (xs : List α) (acc : List D), acc.length + xs.length ≤ sizeLine →
    (∀ x ∈ xs, ∃ δ1, tg.put (f x) δ = some δ1 ∧ elt δ1 μ = some (.ok (g x), μ)) → compL tg keep elt δ (xs.map f) acc μ = some (.ok (.lst (acc ++ xs.map g)), μ)
  | [], acc, _, _ => by simp [compL, retR]
  | x :: xs, acc, hz, h => by
    obtain ⟨δ1, p, e⟩ := h x List.mem_cons_self
    have hz2 : acc.length < sizeLine := by simp at hz; omega
    simp [compL, p, hk, noE, e, hz2, comp_map hk xs (acc ++ [g x]) (by simp at hz ⊢; omega) fun y hy => h y (List.mem_cons_of_mem _ hy)]
/-! ### the words there are -/
/-! ### the words of a wire, written by the law -/
theorem eq_as (l : Bool) : eqD μ (.str (if l = true then "less" else "add")) (.str "set") = some false := by cases l <;> kernel_rfl
theorem eq_ap (l : Bool) : eqD μ (.str (if l = true then "less" else "add")) (.str "print") = some false := by cases l <;> kernel_rfl
theorem eq_cs : eqD μ (.str "clear") (.str "set") = some false := by kernel_rfl
theorem eq_cp : eqD μ (.str "clear") (.str "print") = some false := by kernel_rfl
end
end Dr
set_option Elab.async false
set_option linter.all false
set_option maxRecDepth 100000
set_option maxHeartbeats 4000000
/-! Mca: machines with boards, in plain terms; what the program's defs come to there. -/
namespace Mm
open PySem L2 Mi Pg Ev Dr
abbrev Key := Int × Int
def keyD (k : Key) : D := .tup [.int k.1, .int k.2]
def koD : Option Key → D
  | none => .non
  | some k => keyD k
/-- what counters count in -/
class Nm (α : Type) where
  z : α
  a : α → α → α
  n : α → α
instance : Nm Int := ⟨0, fun a b => a + b, fun a => -a⟩
@[simp] theorem nm_z : (Nm.z : Int) = 0 := rfl
@[simp] theorem nm_a (a b : Int) : Nm.a a b = a + b := rfl
@[simp] theorem nm_n (a : Int) : Nm.n a = -a := rfl
structure Card (α : Type) where
  k : Key
  h : Bool
  x : α
  y : α
def Card.d (c : Card Int) : D := .tup [.int c.k.1, .int c.k.2, .bl c.h, .int c.x, .int c.y]
/-- which wires are gone through -/
inductive Tm | card (h : Bool) | brk (m : Bool)
def Tm.has : Tm → When → Bool
  | .card _, .card => true
  | .card h, .hole => h
  | .card h, .plain => !h
  | .brk _, .minor => true
  | .brk m, .major => m
  | _, _ => false
def Tm.ws : Tm → List D
  | .card h => [.str "card", if h = true then .str "hole" else .str "plain"]
  | .brk m => if m = true then [.str "minor", .str "major"] else [.str "minor"]
def whenMaj : When → Bool
  | .major => true
  | _ => false
/-- counters and switches -/
structure St (α : Type) where
  cs : List α
  ss : List Bool
def St.c (s : St Int) : D := .tup (s.cs.map .int)
def St.s {α : Type} (s : St α) : D := .tup (s.ss.map .bl)
def St.ok {α : Type} (nc ns : Nat) (s : St α) : Prop := s.cs.length = nc ∧ s.ss.length = ns
def num {α : Type} [Nm α] (cs : List α) (x y : α) : Src → α
  | .x => x
  | .y => y
  | .c i => cs.getD i Nm.z
def stepA {α : Type} [Nm α] (x y : α) (s : St α) : Dr.Act → St α
  | .add l v i => ⟨s.cs.set i (Nm.a (s.cs.getD i Nm.z) (if l = true then Nm.n (num s.cs x y v) else num s.cs x y v)), s.ss⟩
  | .clear i => ⟨s.cs.set i Nm.z, s.ss⟩
  | .set i b => ⟨s.cs, s.ss.set i b⟩
  | .print _ => s
def swOk (ss : List Bool) : Option (Nat × Bool) → Bool
  | none => true
  | some (i, b) => ss.getD i false == b
/-- a line that is printed: items, key, by a wire with major, the wire -/
structure Pr (α : Type) where
  items : List α
  k : Key
  m : Bool
  ix : Nat
def Pr.it (p : Pr Int) : D := .tup (p.items.map .int)
def Pr.hd {α : Type} (p : Pr α) : D := .tup [.int p.k.1, .int p.k.2, .bl p.m]
def Pr.d (p : Pr Int) : D := .tup [p.it, p.hd, .int p.ix]
def Pr.e (p : Pr Int) : D := .tup [p.it, p.hd]
def isP : Dr.Act → Option (List Src)
  | .print ss => some ss
  | _ => none
def passM {α : Type} [Nm α] (tm : Tm) (k : Key) (x y : α) : Nat → List Wire → St α → St α × List (Pr α)
  | _, [], s => (s, [])
  | i, w :: ws, s => if (tm.has w.when && swOk s.ss w.sw) = true then
      match isP w.act with
      | some ss => ((passM tm k x y (i + 1) ws s).1, ⟨ss.map (num s.cs x y), k, whenMaj w.when, i⟩ :: (passM tm k x y (i + 1) ws s).2)
      | none => passM tm k x y (i + 1) ws (stepA x y s w.act)
    else passM tm k x y (i + 1) ws s
/-! ### facts on lists -/
theorem atI_map {α β : Type} (f : α → β) (d : α) {xs : List α} {i : Nat} (h : i < xs.length) : L2.atI (xs.map f) (i : Int) = some (f (xs.getD i d)) := by
  unfold L2.atI L2.ixN
  rw [if_pos (by omega), if_pos (by simp; omega), Option.bind_some]
  simp [h]
theorem cut_take {α : Type} (xs : List α) (i : Nat) : cutL xs none (some (i : Int)) = xs.take i := by
  unfold cutL
  rw [HT.sIx_none, HT.sIx_nat]
  simp
theorem cut_drop {α : Type} (xs : List α) (i : Nat) : cutL xs (some (i : Int)) none = xs.drop i := by
  unfold cutL
  rw [HT.sIx_none, HT.sIx_nat]
  rcases Nat.le_total i xs.length with h | h
  · rw [Nat.min_eq_left h, List.take_of_length_le (by simp)]
  · rw [Nat.min_eq_right h]; simp [List.drop_eq_nil_of_le h]
theorem cut2 {α : Type} (x y : α) (xs : List α) : cutL (x :: y :: xs) none (some 2) = [x, y] := by
  have := cut_take (x :: y :: xs) 2
  simpa using this
theorem set_eq {α : Type} {xs : List α} {i : Nat} {v : α} (h : i < xs.length) : xs.take i ++ v :: xs.drop (i + 1) = xs.set i v := by
  rw [List.set_eq_take_append_cons_drop, if_pos h]
section
variable {μ : List Mo} {nc ns : Nat}
theorem eq_bl {a b : Bool} : eqD μ (.bl a) (.bl b) = some (a == b) := by
  rw [eqD_ok (by rfl) (by rfl)]
  rfl
theorem eq_str {z w : Str} (h : PyData.strOk z = true) (h2 : PyData.strOk w = true) : eqD μ (.str z) (.str w) = some (z == w) := by
  rw [eqD_ok (ok_str z 64 h) (ok_str w 64 h2)]
  rfl
theorem eq_key {a b : Key} : eqD μ (keyD a) (keyD b) = some (decide (a = b)) := by
  rw [eqD_ok (by rfl) (by rfl)]
  obtain ⟨a1, a2⟩ := a
  obtain ⟨b1, b2⟩ := b
  simp only [keyD, eqb, eqbs, Prod.mk.injEq, Bool.and_true, Bool.decide_and]
  rfl
theorem with_item_ok {α : Type} {f : α → D} {xs : List α} {i : Nat} {v : α} (h : i < xs.length) (hl : xs.length ≤ 1000) : Fwith_item [.tup (xs.map f), .int i, f v] μ = some (.ok (.tup ((xs.set i v).map f)), μ) := by
  have z1 : min i xs.length + 1 ≤ 16777216 := by omega
  have z2 : min i xs.length + 1 + (xs.length - (i + 1)) ≤ 16777216 := by omega
  have z3 : min i xs.length + (xs.length - (i + 1) + 1) ≤ 16777216 := by omega
  have c1 := cut_take (xs.map f) i
  have c2 := cut_drop (xs.map f) (i + 1)
  simp only [Int.natCast_add, Int.cast_ofNat_Int] at c2
  rw [← set_eq h]
  simp [Fwith_item, B_with_item, go, c1, c2, szL, z1, z2, z3]
/-- the card at hand: a whole card, or its key at a break -/
def CdOk (tm : Tm) (k : Key) (x y : Int) (cd : D) : Prop := (∃ h, tm = .card h ∧ cd = Card.d ⟨k, h, x, y⟩) ∨ ((∃ m, tm = .brk m) ∧ cd = keyD k)
theorem eq_cx (i : Int) : eqD μ (.int i) (.str "x") = some false := by rw [eqD_ok (by rfl) (ok_str _ _ (by decide +kernel))]; rfl
theorem eq_cy (i : Int) : eqD μ (.int i) (.str "y") = some false := by rw [eqD_ok (by rfl) (ok_str _ _ (by decide +kernel))]; rfl
theorem eq_xx : eqD μ (.str "x") (.str "x") = some true := by kernel_rfl
theorem eq_yx : eqD μ (.str "y") (.str "x") = some false := by kernel_rfl
theorem eq_yy : eqD μ (.str "y") (.str "y") = some true := by kernel_rfl
theorem number_ok {tm : Tm} {k : Key} {x y : Int} {cd : D} {w : When} {s : Src} {cs : List Int} (hcd : CdOk tm k x y cd) (hs : s.ok nc w) (ht : tm.has w = true) (hl : cs.length = nc) : Fnumber_of [.tup (cs.map .int), cd, s.d] μ = some (.ok (.int (num cs x y s)), μ) := by
  have hc : ∀ z, (z = Src.x ∨ z = Src.y) → z.ok nc w → ∃ h, cd = Card.d ⟨k, h, x, y⟩ := by
    intro z hz ho
    rcases hcd with ⟨h, rfl, rfl⟩ | ⟨⟨m, rfl⟩, rfl⟩
    · exact ⟨h, rfl⟩
    · have hw : w.cardy = true := by rcases hz with rfl | rfl <;> exact ho
      cases w <;> simp [Tm.has, When.cardy] at ht hw
  cases s with
  | x =>
    obtain ⟨h, rfl⟩ := hc _ (.inl rfl) hs
    simp [Fnumber_of, B_number_of, go, Src.d, eq_xx, Card.d, num]
  | y =>
    obtain ⟨h, rfl⟩ := hc _ (.inr rfl) hs
    simp [Fnumber_of, B_number_of, go, Src.d, eq_yx, eq_yy, Card.d, num]
  | c i =>
    have h : i < nc := hs
    simp [Fnumber_of, B_number_of, go, Src.d, eq_cx, eq_cy, num, atI_map D.int 0 (show i < cs.length by omega)]
theorem is_done_ok {ss : List Bool} {w : Wire} (h : ∀ i b, w.sw = some (i, b) → i < ss.length) : Fis_done [.tup (ss.map .bl), w.d] μ = some (.ok (.bl (swOk ss w.sw)), μ) := by
  obtain ⟨w, sw, a⟩ := w
  rcases sw with _ | ⟨i, b⟩
  · simp [Fis_done, B_is_done, go, Wire.d, swD, swOk]
  · have hi := h i b rfl
    simp [Fis_done, B_is_done, go, Wire.d, swD, swOk, atI_map D.bl false hi, eq_bl]
theorem eq_ac (l : Bool) : eqD μ (.str (if l = true then "less" else "add")) (.str "clear") = some false := by cases l <;> kernel_rfl
theorem eq_as (l : Bool) : eqD μ (.str (if l = true then "less" else "add")) (.str "set") = some false := by cases l <;> kernel_rfl
theorem eq_ap (l : Bool) : eqD μ (.str (if l = true then "less" else "add")) (.str "print") = some false := by cases l <;> kernel_rfl
theorem eq_aa (l : Bool) : eqD μ (.str (if l = true then "less" else "add")) (.str "add") = some (!l) := by cases l <;> kernel_rfl
theorem eq_cp : eqD μ (.str "clear") (.str "print") = some false := by kernel_rfl
theorem eq_sp : eqD μ (.str "set") (.str "print") = some false := by kernel_rfl
theorem done_ok {tm : Tm} {k : Key} {x y : Int} {cd : D} {w : Wire} {s : St Int} (hcd : CdOk tm k x y cd) (hw : w.ok nc ns) (ht : tm.has w.when = true) (hs : s.ok nc ns) (hc : nc ≤ 3) (hn : ns ≤ 2) (hp : isP w.act = none) : Fdone [s.c, s.s, w.act.d, cd] μ = some (.ok (.tup [(stepA x y s w.act).c, (stepA x y s w.act).s]), μ) := by
  obtain ⟨hl, hm⟩ := hs
  obtain ⟨w, sw, a⟩ := w
  obtain ⟨_, hw⟩ := hw
  cases a with
  | add l v i =>
    obtain ⟨h1, h2⟩ : v.ok nc w ∧ i < nc := hw
    have hv := number_ok (μ := μ) hcd h1 ht hl
    have hi : i < s.cs.length := by omega
    cases l
    · have hwi := with_item_ok (μ := μ) (f := D.int) (xs := s.cs) (i := i) (v := s.cs.getD i 0 + num s.cs x y v) hi (by omega)
      simp only [List.getD_eq_getElem?_getD] at hwi
      have e1 := eq_ac (μ := μ) false
      have e2 := eq_as (μ := μ) false
      have e3 := eq_aa (μ := μ) false
      simp at e1 e2 e3
      simp [Fdone, B_done, go, St.c, St.s, Act.d, e1, e2, e3, hv, atI_map D.int 0 hi, hwi, szL, stepA]
    · have hwi := with_item_ok (μ := μ) (f := D.int) (xs := s.cs) (i := i) (v := s.cs.getD i 0 + -num s.cs x y v) hi (by omega)
      simp only [List.getD_eq_getElem?_getD] at hwi
      have e1 := eq_ac (μ := μ) true
      have e2 := eq_as (μ := μ) true
      have e3 := eq_aa (μ := μ) true
      simp at e1 e2 e3
      simp [Fdone, B_done, go, St.c, St.s, Act.d, e1, e2, e3, hv, atI_map D.int 0 hi, hwi, szL, stepA]
  | clear i =>
    have h2 : i < nc := hw
    have hwi := with_item_ok (μ := μ) (f := D.int) (xs := s.cs) (i := i) (v := 0) (by omega) (by omega)
    simp [Fdone, B_done, go, St.c, St.s, Act.d, eq_cc, hwi, szL, stepA]
  | set i b =>
    have h2 : i < ns := hw
    have hwi := with_item_ok (μ := μ) (f := D.bl) (xs := s.ss) (i := i) (v := b) (by omega) (by omega)
    simp [Fdone, B_done, go, St.c, St.s, Act.d, eq_sc, eq_ss, hwi, szL, stepA]
  | print ss => simp [isP] at hp
end
end Mm
set_option Elab.async false
set_option linter.all false
set_option maxRecDepth 100000
set_option maxHeartbeats 4000000
/-! Mcb: wires gone through, cards fed, rows: by the program. -/
namespace Mm
open PySem L2 Mi Pg Ev Dr
/-- what enumerate goes over, from a number on -/
def enF : Nat → List D → List D
  | _, [] => []
  | i, d :: ds => .tup [.int i, d] :: enF (i + 1) ds
theorem enF_eq : ∀ (ds : List D) (k : Nat), (List.range' k ds.length).zipWith (fun (i : Nat) d => D.tup [.int i, d]) ds = enF k ds
  | [], _ => rfl
  | d :: ds, k => by
    simp only [List.length_cons, List.range'_succ, List.zipWith_cons_cons, enF, enF_eq ds (k + 1)]
theorem enumD_eq (ds : List D) : enumD ds = enF 0 ds := by
  unfold enumD
  rw [List.range_eq_range', enF_eq]
theorem step_ok {α : Type} [Nm α] {nc ns : Nat} {s : St α} {x y : α} {a : Dr.Act} (h : s.ok nc ns) : (stepA x y s a).ok nc ns := by
  cases a <;> simpa [stepA, St.ok] using h
theorem pass_ok {α : Type} [Nm α] {nc ns : Nat} {tm : Tm} {k : Key} {x y : α} : ∀ (ws : List Wire) (i : Nat) (s : St α), s.ok nc ns → (passM tm k x y i ws s).1.ok nc ns ∧ (passM tm k x y i ws s).2.length ≤ ws.length ∧ (∀ p ∈ (passM tm k x y i ws s).2, p.k = k)
  | [], _, _, h => ⟨h, by simp [passM], by simp [passM]⟩
  | w :: ws, i, s, h => by
    unfold passM
    split
    · split
      · obtain ⟨h1, h2, h3⟩ := pass_ok (tm := tm) (k := k) (x := x) (y := y) ws (i + 1) s h
        refine ⟨h1, by simp; omega, fun p hp => ?_⟩
        rcases List.mem_cons.mp hp with rfl | hp
        · rfl
        · exact h3 p hp
      · obtain ⟨h1, h2, h3⟩ := pass_ok (tm := tm) (k := k) (x := x) (y := y) ws (i + 1) (stepA x y s w.act) (step_ok h)
        exact ⟨h1, by simp; omega, h3⟩
    · obtain ⟨h1, h2, h3⟩ := pass_ok (tm := tm) (k := k) (x := x) (y := y) ws (i + 1) s h
      exact ⟨h1, by simp; omega, h3⟩
def bodyPass : Ss := match B_passed with
  | .cons _ (.cons (.for_ _ _ b) _) => b
  | _ => .nil
section
variable {μ : List Mo} {nc ns : Nat}
theorem in_tm {tm : Tm} {w : When} : Op.do .in_ μ w.d (.tup tm.ws) = some (.bl (tm.has w)) := by
  cases tm with
  | card h => cases h <;> cases w <;> kernel_rfl
  | brk m => cases m <;> cases w <;> kernel_rfl
theorem eq_maj {w : When} : eqD μ w.d (.str "major") = some (whenMaj w) := by cases w <;> kernel_rfl
theorem cd_cut {tm : Tm} {k : Key} {x y : Int} {cd : D} (h : CdOk tm k x y cd) : slD μ cd none (some 2) = some (keyD k) := by
  rcases h with ⟨h, rfl, rfl⟩ | ⟨⟨m, rfl⟩, rfl⟩
  · simp [Card.d, cut2, keyD]
  · simp [cut2, keyD]
theorem items_comp {tm : Tm} {k : Key} {x y : Int} {cd : D} {w : When} {cs : List Int} {ss : List Src} (hcd : CdOk tm k x y cd) (hs : ∀ s ∈ ss, s.ok nc w) (hn : ss.length ≤ 3) (ht : tm.has w = true) (hl : cs.length = nc) {δ : List Sl} (h2 : δ[2]? = some (.d (.tup (cs.map .int)))) (h4 : δ[4]? = some (.d cd)) (hd : δ.length = 11) :
    compL (.name 10) (ev (.con (.bl true))) (ev (.call Fnumber_of (.cons (.var 2) (.cons (.var 4) (.cons (.var 10) .nil))))) δ (ss.map Src.d) [] μ = some (.ok (.lst ((ss.map (num cs x y)).map .int)), μ) := by
  have := comp_map (μ := μ) (f := Src.d) (g := fun s => .int (num cs x y s)) (tg := .name 10) (keep := ev (.con (.bl true))) (elt := ev (.call Fnumber_of (.cons (.var 2) (.cons (.var 4) (.cons (.var 10) .nil))))) (δ := δ) (fun δ μ => by simp) ss [] (by rw [szL]; simp; omega) (fun s hx => ⟨_, rfl, by
    have a2 : (δ.set 10 (.d s.d))[2]? = some (.d (.tup (cs.map .int))) := by rw [List.getElem?_set_ne (by decide)]; exact h2
    have a4 : (δ.set 10 (.d s.d))[4]? = some (.d cd) := by rw [List.getElem?_set_ne (by decide)]; exact h4
    have a10 : (δ.set 10 (.d s.d))[10]? = some (.d s.d) := by rw [List.getElem?_set_self (by omega)]
    simp [a2, a4, a10, number_ok hcd (hs s hx) ht hl]⟩)
  rw [List.nil_append] at this
  rw [this, List.map_map]
  rfl
theorem pass_loop {tm : Tm} {k : Key} {x y : Int} {cd : D} {bd : D} (hcd : CdOk tm k x y cd) (hc : nc ≤ 3) (hn : ns ≤ 2) : ∀ (ws : List Wire) (i : Nat) (acc : List D) (s : St Int) (a b c d e : Sl), (∀ w ∈ ws, w.ok nc ns) → s.ok nc ns → acc.length + ws.length ≤ 1000000 →
    ∃ a' b' c' d' e', forL (.pair (.name 6) (.name 7)) (exs bodyPass) (enF i (ws.map Wire.d)) [.d bd, .d (.tup tm.ws), .d s.c, .d s.s, .d cd, .d (.tup acc), a, b, c, d, e] μ =
      some (.nx, [.d bd, .d (.tup tm.ws), .d (passM tm k x y i ws s).1.c, .d (passM tm k x y i ws s).1.s, .d cd, .d (.tup (acc ++ (passM tm k x y i ws s).2.map Pr.d)), a', b', c', d', e'], μ)
  | [], i, acc, s, a, b, c, d, e, _, _, _ => ⟨a, b, c, d, e, by simp [forL, enF, passM]⟩
  | w :: ws, i, acc, s, a, b, c, d, e, hw, hs, hz => by
    have hw1 := hw w List.mem_cons_self
    have hw2 : ∀ w ∈ ws, w.ok nc ns := fun y hy => hw y (List.mem_cons_of_mem _ hy)
    have hdn := is_done_ok (μ := μ) (ss := s.ss) (w := w) (fun i b h => by rw [hs.2]; exact hw1.1 i b h)
    have hz1 : acc.length + ws.length ≤ 1000000 := by simp at hz; omega
    have hin := in_tm (μ := μ) (tm := tm) (w := w.when)
    have hmj := eq_maj (μ := μ) (w := w.when)
    have hcut := cd_cut (μ := μ) hcd
    by_cases hh : (tm.has w.when && swOk s.ss w.sw) = true
    · obtain ⟨ht, hsw⟩ := Bool.and_eq_true_iff.mp hh
      rw [ht] at hin
      rw [hsw] at hdn
      cases hp : isP w.act with
      | some ss =>
        have hact : w.act = .print ss := by cases hx : w.act <;> rw [hx] at hp <;> simp [isP] at hp; subst hp; rfl
        have ho := hw1.2
        rw [hact] at ho
        obtain ⟨o1, o2, o3⟩ : 1 ≤ ss.length ∧ ss.length ≤ 3 ∧ ∀ s ∈ ss, s.ok nc w.when := ho
        have hr : passM tm k x y i (w :: ws) s = ((passM tm k x y (i + 1) ws s).1, ⟨ss.map (num s.cs x y), k, whenMaj w.when, i⟩ :: (passM tm k x y (i + 1) ws s).2) := by
          rw [passM, if_pos hh, hp]
        rw [hr]
        obtain ⟨a', b', c', d', e', ih⟩ := pass_loop (bd := bd) hcd hc hn ws (i + 1) (acc ++ [Pr.d ⟨ss.map (num s.cs x y), k, whenMaj w.when, i⟩]) s (.d (.int i)) (.d w.d) (.d w.act.d) (.d (.tup ((ss.map (num s.cs x y)).map .int))) e hw2 hs (by simp at hz ⊢; omega)
        have hic := items_comp (μ := μ) hcd o3 o2 ht hs.1 (δ := [.d bd, .d (.tup tm.ws), .d s.c, .d s.s, .d cd, .d (.tup acc), .d (.int i), .d w.d, .d w.act.d, d, .un]) rfl rfl rfl
        refine ⟨a', b', c', d', e', ?_⟩
        have z1 : acc.length + 1 ≤ 16777216 := by omega
        obtain ⟨T, hT⟩ : ∃ T, D.tup tm.ws = T := ⟨_, rfl⟩
        rw [hT] at hin ih hic ⊢
        simp [Pr.d, Pr.it, Pr.hd] at ih
        rw [hact] at hic ih
        simp [St.c, St.s, Act.d, keyD] at hic hdn ih hcut ⊢
        simp [Wire.d, hact, Act.d] at hic hdn ih
        simp [enF, forL, bodyPass, B_passed, Wire.d, hact, Act.d, hin, hdn, eq_pp, kcomp, wipeS, hic, hcut, hmj, szL, z1]
        simp [Pr.d, Pr.it, Pr.hd]
        exact ih
      | none =>
        have hr : passM tm k x y i (w :: ws) s = passM tm k x y (i + 1) ws (stepA x y s w.act) := by
          rw [passM, if_pos hh, hp]
        rw [hr]
        obtain ⟨a', b', c', d', e', ih⟩ := pass_loop (bd := bd) hcd hc hn ws (i + 1) acc (stepA x y s w.act) (.d (.int i)) (.d w.d) (.d w.act.d) d e hw2 (step_ok hs) hz1
        have hdo := done_ok (μ := μ) hcd hw1 ht hs hc hn hp
        have hnp : eqD μ (L2.atI (match w.act.d with | .tup xs => xs | _ => []) 0 |>.getD .non) (.str "print") = some false := by
          cases hx : w.act with
          | add l v i => simp [Act.d]; exact eq_ap l
          | clear i => simp [Act.d, eq_cp]
          | set i b => simp [Act.d, eq_sp]
          | print ss => rw [hx] at hp; simp [isP] at hp
        have hix : ixD μ w.act.d (.int 0) = some (L2.atI (match w.act.d with | .tup xs => xs | _ => []) 0 |>.getD .non) := by
          cases hx : w.act <;> simp [Act.d]
        obtain ⟨T, hT⟩ : ∃ T, D.tup tm.ws = T := ⟨_, rfl⟩
        obtain ⟨A, hA⟩ : ∃ A, w.act.d = A := ⟨_, rfl⟩
        obtain ⟨A0, hA0⟩ : ∃ A0, (L2.atI (match w.act.d with | .tup xs => xs | _ => []) 0 |>.getD .non) = A0 := ⟨_, rfl⟩
        rw [hA0] at hnp hix
        simp only [Wire.d] at hdn ih
        rw [hT] at hin ih ⊢
        rw [hA] at hdo hix hdn ih
        simp only [St.c, St.s] at hdo ih hdn ⊢
        refine ⟨a', b', c', d', e', ?_⟩
        simp [enF, forL, bodyPass, B_passed, Wire.d, hA, hin, hdn, hix, hnp, hdo, szL]
        exact ih
    · have hr : passM tm k x y i (w :: ws) s = passM tm k x y (i + 1) ws s := by
        rw [passM, if_neg hh]
      rw [hr]
      obtain ⟨a', b', c', d', e', ih⟩ := pass_loop (bd := bd) hcd hc hn ws (i + 1) acc s (.d (.int i)) (.d w.d) c d e hw2 hs hz1
      obtain ⟨T, hT⟩ : ∃ T, D.tup tm.ws = T := ⟨_, rfl⟩
      rw [hT] at hin ih ⊢
      simp only [St.c, St.s] at ih hdn ⊢
      simp only [Wire.d] at ih hdn
      refine ⟨a', b', c', d', e', ?_⟩
      cases ht : tm.has w.when with
      | false =>
        rw [ht] at hin
        simp [enF, forL, bodyPass, B_passed, Wire.d, hin]
        exact ih
      | true =>
        rw [ht] at hin hh
        cases hq : swOk s.ss w.sw with
        | true => rw [hq] at hh; simp at hh
        | false =>
          rw [hq] at hdn
          simp [enF, forL, bodyPass, B_passed, Wire.d, hin, hdn]
          exact ih
end
end Mm
set_option Elab.async false
set_option linter.all false
set_option maxRecDepth 100000
set_option maxHeartbeats 4000000
/-! Mcc: cards fed, rows of boards, sheets: by the program. -/
namespace Mm
open PySem L2 Mi Pg Ev Dr
/-- the break ahead of a card: none, or whether it is a major one -/
def lvl : Option Key → Key → Option Bool
  | none, _ => none
  | some a, b => if a = b then none else some (decide (a.1 ≠ b.1))
structure Sd (α : Type) where
  s : St α
  k : Option Key
def Sd.d (t : Sd Int) : D := .tup [t.s.c, t.s.s, koD t.k]
section
variable {α : Type} [Nm α]
def brkM (b : Board) (t : Sd α) (k : Key) : St α × List (Pr α) := match lvl t.k k with
  | none => (t.s, [])
  | some m => passM (.brk m) (t.k.getD (0, 0)) Nm.z Nm.z 0 b.ws t.s
def feedM (b : Board) (t : Sd α) (c : Card α) : Sd α × List (Pr α) :=
  (⟨(passM (.card c.h) c.k c.x c.y 0 b.ws (brkM b t c.k).1).1, some c.k⟩, (brkM b t c.k).2 ++ (passM (.card c.h) c.k c.x c.y 0 b.ws (brkM b t c.k).1).2)
def finM (b : Board) (t : Sd α) : Sd α × List (Pr α) := match t.k with
  | none => (t, [])
  | some k => (⟨(passM (.brk true) k Nm.z Nm.z 0 b.ws t.s).1, none⟩, (passM (.brk true) k Nm.z Nm.z 0 b.ws t.s).2)
def fedM (b : Board) : Sd α → List (Card α) → Sd α × List (Pr α)
  | t, [] => (t, [])
  | t, c :: cs => ((fedM b (feedM b t c).1 cs).1, (feedM b t c).2 ++ (fedM b (feedM b t c).1 cs).2)
def cardOf (p : Pr α) : Option (Card α) := match p.items with
  | [x, y] => some ⟨p.k, p.m, x, y⟩
  | _ => none
def cardsM (ps : List (Pr α)) : List (Card α) := ps.filterMap cardOf
def begM (b : Board) : Sd α := ⟨⟨List.replicate b.nc Nm.z, List.replicate b.ns false⟩, none⟩
inductive Row | one (a : Board) | two (a b : Board)
def feedR (r : Row) (t : Sd α × Sd α) (c : Card α) : (Sd α × Sd α) × List (Pr α) := match r with
  | .one a => (((feedM a t.1 c).1, t.2), (feedM a t.1 c).2)
  | .two a b => (((feedM a t.1 c).1, (fedM b t.2 (cardsM (feedM a t.1 c).2)).1), (fedM b t.2 (cardsM (feedM a t.1 c).2)).2)
def endR (r : Row) (t : Sd α × Sd α) : List (Pr α) := match r with
  | .one a => (finM a t.1).2
  | .two a b => (fedM b t.2 (cardsM (finM a t.1).2)).2 ++ (finM b (fedM b t.2 (cardsM (finM a t.1).2)).1).2
def begR : Row → Sd α × Sd α
  | .one a => (begM a, begM a)
  | .two a b => (begM a, begM b)
def fedR (r : Row) : Sd α × Sd α → List (Card α) → (Sd α × Sd α) × List (Pr α)
  | t, [] => (t, [])
  | t, c :: cs => ((fedR r (feedR r t c).1 cs).1, (feedR r t c).2 ++ (fedR r (feedR r t c).1 cs).2)
def allR (r : Row) (cs : List (Card α)) : List (Pr α) := (fedR r (begR r) cs).2 ++ endR r (fedR r (begR r) cs).1
end
def Row.d : Row → D
  | .one a => .tup [a.d]
  | .two a b => .tup [a.d, b.d]
def stD : Row → Sd Int × Sd Int → D
  | .one _, t => .tup [t.1.d]
  | .two _ _, t => .tup [t.1.d, t.2.d]
def prD (ps : List (Pr Int)) : D := .tup (ps.map Pr.d)
def Sd.ok {α : Type} (b : Board) (t : Sd α) : Prop := t.s.ok b.nc b.ns
/-! ### lengths and forms -/
section
variable {α : Type} [Nm α] {b : Board}
theorem brk_ok {t : Sd α} {k : Key} (hb : b.ok) (h : t.ok b) : (brkM b t k).1.ok b.nc b.ns ∧ (brkM b t k).2.length ≤ 8 := by
  unfold brkM
  split
  · exact ⟨h, by simp⟩
  · obtain ⟨h1, h2, _⟩ := pass_ok (tm := .brk _) (k := t.k.getD (0, 0)) (x := Nm.z) (y := Nm.z) b.ws 0 t.s h
    exact ⟨h1, Nat.le_trans h2 hb.l⟩
theorem feed_okM {t : Sd α} {c : Card α} (hb : b.ok) (h : t.ok b) : (feedM b t c).1.ok b ∧ (feedM b t c).2.length ≤ 16 := by
  obtain ⟨h1, h2⟩ := brk_ok (k := c.k) hb h
  obtain ⟨h3, h4, _⟩ := pass_ok (tm := .card c.h) (k := c.k) (x := c.x) (y := c.y) b.ws 0 _ h1
  have := hb.l
  exact ⟨h3, by simp [feedM]; omega⟩
theorem fin_okM {t : Sd α} (hb : b.ok) (h : t.ok b) : (finM b t).1.ok b ∧ (finM b t).2.length ≤ 8 := by
  unfold finM
  split
  · exact ⟨h, by simp⟩
  · rename_i k _
    obtain ⟨h1, h2, _⟩ := pass_ok (tm := .brk true) (k := k) (x := Nm.z) (y := Nm.z) b.ws 0 t.s h
    exact ⟨h1, Nat.le_trans h2 hb.l⟩
theorem fed_okM (hb : b.ok) : ∀ (cs : List (Card α)) (t : Sd α), t.ok b → (fedM b t cs).1.ok b ∧ (fedM b t cs).2.length ≤ 16 * cs.length
  | [], t, h => ⟨h, by simp [fedM]⟩
  | c :: cs, t, h => by
    obtain ⟨h1, h2⟩ := feed_okM (c := c) hb h
    obtain ⟨h3, h4⟩ := fed_okM hb cs (feedM b t c).1 h1
    exact ⟨h3, by simp [fedM]; omega⟩
theorem cards_len (ps : List (Pr α)) : (cardsM ps).length ≤ ps.length := List.length_filterMap_le _ _
theorem beg_okM : (begM b : Sd α).ok b := by simp [begM, Sd.ok, St.ok]
def Row.ok : Row → Prop
  | .one a => a.ok
  | .two a b => a.ok ∧ b.ok ∧ a.ws.length + b.ws.length ≤ 8
def stOk : Row → Sd α × Sd α → Prop
  | .one a, t => t.1.ok a
  | .two a b, t => t.1.ok a ∧ t.2.ok b
theorem feedR_ok {r : Row} (hr : r.ok) {t : Sd α × Sd α} {c : Card α} (h : stOk r t) : stOk r (feedR r t c).1 ∧ (feedR r t c).2.length ≤ 256 := by
  cases r with
  | one a =>
    obtain ⟨h1, h2⟩ := feed_okM (c := c) (b := a) hr h
    exact ⟨h1, by simp [feedR]; omega⟩
  | two a b =>
    obtain ⟨ha, hb, _⟩ := hr
    obtain ⟨h1, h2⟩ := feed_okM (c := c) ha h.1
    obtain ⟨h3, h4⟩ := fed_okM hb (cardsM (feedM a t.1 c).2) t.2 h.2
    have := cards_len (feedM a t.1 c).2
    exact ⟨⟨h1, h3⟩, by simp [feedR]; omega⟩
theorem endR_len {r : Row} (hr : r.ok) {t : Sd α × Sd α} (h : stOk r t) : (endR r t).length ≤ 256 := by
  cases r with
  | one a =>
    obtain ⟨h1, h2⟩ := fin_okM (b := a) hr h
    simp [endR]; omega
  | two a b =>
    obtain ⟨ha, hb, _⟩ := hr
    obtain ⟨h1, h2⟩ := fin_okM ha h.1
    obtain ⟨h3, h4⟩ := fed_okM hb (cardsM (finM a t.1).2) t.2 h.2
    obtain ⟨h5, h6⟩ := fin_okM hb h3
    have := cards_len (finM a t.1).2
    simp [endR]; omega
theorem begR_ok {r : Row} : stOk r (begR r : Sd α × Sd α) := by
  cases r with
  | one a => exact beg_okM
  | two a b => exact ⟨beg_okM, beg_okM⟩
theorem fedR_ok {r : Row} (hr : r.ok) : ∀ (cs : List (Card α)) (t : Sd α × Sd α), stOk r t → stOk r (fedR r t cs).1 ∧ (fedR r t cs).2.length ≤ 256 * cs.length
  | [], t, h => ⟨h, by simp [fedR]⟩
  | c :: cs, t, h => by
    obtain ⟨h1, h2⟩ := feedR_ok hr (c := c) h
    obtain ⟨h3, h4⟩ := fedR_ok hr cs (feedR r t c).1 h1
    exact ⟨h3, by simp [fedR]; omega⟩
end
/-! ### the program -/
section
variable {μ : List Mo} {b : Board}
theorem passed_ok {tm : Tm} {k : Key} {x y : Int} {cd : D} (hb : b.ok) (hcd : CdOk tm k x y cd) {s : St Int} (hs : s.ok b.nc b.ns) : Fpassed [b.d, .tup tm.ws, s.c, s.s, cd] μ = some (.ok (.tup [(passM tm k x y 0 b.ws s).1.c, (passM tm k x y 0 b.ws s).1.s, prD (passM tm k x y 0 b.ws s).2]), μ) := by
  have hl := hb.l
  obtain ⟨a', b', c', d', e', h⟩ := pass_loop (μ := μ) (bd := b.d) hcd hb.c hb.s b.ws 0 [] s .un .un .un .un .un hb.w hs (by simp; omega)
  have he : enumK (.tup (b.ws.map Wire.d)) = some (enF 0 (b.ws.map Wire.d)) := by show some _ = _; rw [enumD_eq]
  simp [bodyPass, B_passed] at h
  have hi : ixD μ b.d (.int 2) = some (.tup (b.ws.map Wire.d)) := by simp [Board.d]
  simp [Fpassed, B_passed, go, hi, x_kfor, kenum, he, h, szL, prD]
theorem isn_key {k : Key} : isD (keyD k) .non = some false := rfl
theorem sl_key {k : Key} {h : Bool} {x y : Int} : slD μ (Card.d ⟨k, h, x, y⟩) none (some 2) = some (keyD k) := by simp [Card.d, cut2, keyD]
theorem break_ok {a c : Key} : Fbreak_between [keyD a, keyD c] μ = some (.ok (match lvl (some a) c with | none => .str "none" | some m => .str (if m = true then "major" else "minor")), μ) := by
  obtain ⟨a1, a2⟩ := a
  obtain ⟨c1, c2⟩ := c
  have hk := eq_key (μ := μ) (a := (a1, a2)) (b := (c1, c2))
  by_cases h : (a1, a2) = (c1, c2)
  · rw [decide_eq_true h] at hk
    rw [h] at hk ⊢
    simp [Fbreak_between, B_break_between, go, hk, lvl]
  · rw [decide_eq_false h] at hk
    by_cases h1 : a1 = c1
    · simp [Fbreak_between, B_break_between, go, hk, lvl, h]
      simp [h1, keyD]
    · simp [Fbreak_between, B_break_between, go, hk, lvl, h]
      simp [h1, keyD]
theorem ne_nn : eqD μ (.str "none") (.str "none") = some true := by kernel_rfl
theorem ne_mn : eqD μ (.str "major") (.str "none") = some false := by kernel_rfl
theorem ne_in : eqD μ (.str "minor") (.str "none") = some false := by kernel_rfl
theorem ne_mm : eqD μ (.str "major") (.str "major") = some true := by kernel_rfl
theorem ne_im : eqD μ (.str "minor") (.str "major") = some false := by kernel_rfl
theorem feed_ok {t : Sd Int} {c : Card Int} (hb : b.ok) (ht : t.ok b) : Ffeed [b.d, t.d, c.d] μ = some (.ok (.tup [(feedM b t c).1.d, prD (feedM b t c).2]), μ) := by
  obtain ⟨⟨cs, ss⟩, ko⟩ := t
  obtain ⟨k, h, x, y⟩ := c
  obtain ⟨s1, p1, e1⟩ : ∃ s1 p1, brkM b ⟨⟨cs, ss⟩, ko⟩ k = (s1, p1) := ⟨_, _, rfl⟩
  obtain ⟨hbk, hbl⟩ := brk_ok (k := k) hb ht
  rw [e1] at hbk hbl
  have hp2 := passed_ok (μ := μ) (tm := .card h) (k := k) (x := x) (y := y) hb (.inl ⟨h, rfl, rfl⟩) hbk
  obtain ⟨hl2, hl3, _⟩ := pass_ok (tm := .card h) (k := k) (x := x) (y := y) b.ws 0 s1 hbk
  have := hb.l
  obtain ⟨s2, p2, e2⟩ : ∃ s2 p2, passM (.card h) k x y 0 b.ws s1 = (s2, p2) := ⟨_, _, rfl⟩
  have hf : feedM b ⟨⟨cs, ss⟩, ko⟩ ⟨k, h, x, y⟩ = (⟨s2, some k⟩, p1 ++ p2) := by simp only [feedM, e1, e2]
  rw [hf]
  rw [e2] at hp2 hl3
  simp only at hp2 hl3 hbl
  have z1 : p1.length + p2.length ≤ 16777216 := by omega
  have z2 : p2.length ≤ 16777216 := by omega
  have hsl := sl_key (μ := μ) (k := k) (h := h) (x := x) (y := y)
  have hix : ixD μ (Card.d ⟨k, h, x, y⟩) (.int 2) = some (.bl h) := by simp [Card.d]
  simp [Tm.ws] at hp2
  cases ko with
  | none =>
    simp [brkM, lvl] at e1
    obtain ⟨rfl, rfl⟩ := e1
    cases h <;> simp at hp2 <;> simp [Ffeed, B_feed, go, Sd.d, koD, szL, ne_nn, hix, hsl, hp2, prD, z1, z2]
  | some k0 =>
    have hbr := break_ok (μ := μ) (a := k0) (c := k)
    have hk0 := isn_key (k := k0)
    simp only [brkM] at e1
    cases hlv : lvl (some k0) k with
    | none =>
      rw [hlv] at hbr e1
      simp at hbr e1
      obtain ⟨rfl, rfl⟩ := e1
      cases h <;> simp at hp2 <;> simp [Ffeed, B_feed, go, Sd.d, koD, szL, hk0, hbr, ne_nn, hix, hsl, hp2, prD, z1, z2]
    | some m =>
      rw [hlv] at hbr e1
      simp at hbr e1
      have hp1 := passed_ok (μ := μ) (tm := .brk m) (k := k0) (x := 0) (y := 0) hb (.inr ⟨⟨m, rfl⟩, rfl⟩) ht
      simp at hp1
      rw [e1] at hp1
      simp [Tm.ws] at hp1
      cases m <;> cases h <;> simp at hp2 hp1 hbr <;> simp [Ffeed, B_feed, go, Sd.d, koD, szL, hk0, hbr, ne_mn, ne_in, ne_mm, ne_im, hp1, hix, hsl, hp2, prD, z1, z2]
theorem fin_ok {t : Sd Int} (hb : b.ok) (ht : t.ok b) : Ffinish [b.d, t.d] μ = some (.ok (.tup [(finM b t).1.d, prD (finM b t).2]), μ) := by
  obtain ⟨⟨cs, ss⟩, ko⟩ := t
  cases ko with
  | none => simp [Ffinish, B_finish, go, Sd.d, koD, szL, finM, prD]
  | some k0 =>
    have hp1 := passed_ok (μ := μ) (tm := .brk true) (k := k0) (x := 0) (y := 0) hb (.inr ⟨⟨true, rfl⟩, rfl⟩) ht
    simp [Tm.ws] at hp1
    simp [Ffinish, B_finish, go, Sd.d, koD, szL, isn_key, hp1, finM]
theorem fed_loop (hb : b.ok) : ∀ (cs : List (Card Int)) (acc : List D) (t : Sd Int) (dk e f : Sl), t.ok b → acc.length + 16 * cs.length ≤ 10000000 →
    ∃ e' f', forL (.name 4) (exs (.cons (.set (.pair (.name 1) (.name 5)) (.call Ffeed (.cons (.var 0) (.cons (.var 1) (.cons (.var 4) .nil))))) (.cons (.set (.name 3) (.op .add (.var 3) (.var 5))) .nil))) (cs.map Card.d) [.d b.d, .d t.d, dk, .d (.tup acc), e, f] μ =
      some (.nx, [.d b.d, .d (fedM b t cs).1.d, dk, .d (.tup (acc ++ (fedM b t cs).2.map Pr.d)), e', f'], μ)
  | [], acc, t, dk, e, f, _, _ => ⟨e, f, by simp [forL, fedM]⟩
  | c :: cs, acc, t, dk, e, f, ht, hz => by
    obtain ⟨h1, h2⟩ := feed_okM (c := c) hb ht
    simp only [List.length_cons] at hz
    obtain ⟨e', f', ih⟩ := fed_loop hb cs (acc ++ (feedM b t c).2.map Pr.d) (feedM b t c).1 dk (.d c.d) (.d (prD (feedM b t c).2)) h1 (by simp; omega)
    have hf := feed_ok (μ := μ) (c := c) hb ht
    refine ⟨e', f', ?_⟩
    have z1 : acc.length + (feedM b t c).2.length ≤ 16777216 := by omega
    simp only [prD] at hf ih
    simp [forL, hf, szL, z1]
    simp [List.append_assoc] at ih
    simp [fedM]
    exact ih
theorem fed_ok (hb : b.ok) {t : Sd Int} (ht : t.ok b) {cs : List (Card Int)} (hz : cs.length ≤ 100000) : Fall_fed [b.d, t.d, .tup (cs.map Card.d)] μ = some (.ok (.tup [(fedM b t cs).1.d, prD (fedM b t cs).2]), μ) := by
  obtain ⟨e', f', h⟩ := fed_loop (μ := μ) hb cs [] t (.d (.tup (cs.map Card.d))) .un .un ht (by simp; omega)
  simp at h
  simp [Fall_fed, B_all_fed, go, x_kfor, h, szL, prD]
theorem add_hd {k : Key} {m : Bool} {x y : Int} : addD μ (Pr.hd (⟨[x, y], k, m, 0⟩ : Pr Int)) (.tup [.int x, .int y]) = some (Card.d ⟨k, m, x, y⟩) := by
  simp [Pr.hd, Card.d, szL]
theorem cards_comp {δ : List Sl} (hd : δ.length = 4) : ∀ (ps : List (Pr Int)) (acc : List D), acc.length + ps.length ≤ 10000000 →
    compL (.trip (.name 1) (.name 2) (.name 3)) (ev (.op .eq (.bi .len (.cons (.var 1) .nil)) (.con (.int (2))))) (ev (.op .add (.var 2) (.var 1))) δ (ps.map Pr.d) acc μ = some (.ok (.lst (acc ++ (cardsM ps).map Card.d)), μ)
  | [], acc, _ => by simp [compL, retR, cardsM]
  | p :: ps, acc, hz => by
    simp only [List.length_cons] at hz
    have hz2 : acc.length < 16777216 := by omega
    match δ, hd with
    | [a, b, c, d], _ =>
      obtain ⟨its, k, m, ix⟩ := p
      match its with
      | [x, y] =>
        have ih := cards_comp (δ := [a, b, c, d]) rfl ps (acc ++ [Card.d ⟨k, m, x, y⟩]) (by simp; omega)
        have hh := add_hd (μ := μ) (k := k) (m := m) (x := x) (y := y)
        simp [cardsM] at ih
        simp [compL, Pr.d, Pr.it, noE, hh, szL, hz2, cardsM, cardOf]
        simp [Pr.hd] at hh ⊢
        simp [hh, hz2, ih]
      | [] =>
        have ih := cards_comp (δ := [a, b, c, d]) rfl ps acc (by omega)
        simp [cardsM] at ih
        simp [compL, Pr.d, Pr.it, noE, szL, cardsM, cardOf, ih, List.filterMap_cons]
      | [x] =>
        have ih := cards_comp (δ := [a, b, c, d]) rfl ps acc (by omega)
        simp [cardsM] at ih
        simp [compL, Pr.d, Pr.it, noE, szL, cardsM, cardOf, ih, List.filterMap_cons]
      | x :: y :: z :: l =>
        have ih := cards_comp (δ := [a, b, c, d]) rfl ps acc (by omega)
        have hn : ¬ ((l.length : Int) + 1 + 1 + 1 = 2) := by omega
        simp [cardsM] at ih
        simp [compL, Pr.d, Pr.it, noE, szL, cardsM, cardOf, hn, ih, List.filterMap_cons]
theorem cards_ok {ps : List (Pr Int)} (hz : ps.length ≤ 1000000) : Fcards_of [prD ps] μ = some (.ok (.tup ((cardsM ps).map Card.d)), μ) := by
  have h := cards_comp (μ := μ) (δ := [.d (prD ps), .un, .un, .un]) rfl ps [] (by simp; omega)
  simp [prD] at h
  simp [Fcards_of, B_cards_of, go, prD, kcomp, wipeS, h]
end
end Mm
set_option Elab.async false
set_option linter.all false
set_option maxRecDepth 100000
set_option maxHeartbeats 4000000
/-! Mcd: rows of boards, sheets: by the program. -/
namespace Mm
open PySem L2 Mi Pg Ev Dr
section
variable {μ : List Mo} {b : Board} {r : Row}
theorem ixb0 : ixD μ b.d (.int 0) = some (.int b.nc) := by simp [Board.d]
theorem ixb1 : ixD μ b.d (.int 1) = some (.int b.ns) := by simp [Board.d]
theorem rep_flat {α : Type} (n : Nat) (x : α) : (List.replicate n [x]).flatten = List.replicate n x := by
  induction n with
  | zero => rfl
  | succ n ih => simp [List.replicate_succ, ih]
theorem mul_rep {x : D} {n : Nat} (h : n ≤ 1000) : mulD (.tup [x]) (.int n) = some (.tup (List.replicate n x)) := by
  show (if (decide (-(2 ^ 63) ≤ (n : Int)) && decide ((n : Int) ≤ 1000) && decide ([x].length ≤ 1000)) = true then some (D.tup (List.replicate (n : Int).toNat [x]).flatten) else none) = _
  rw [if_pos (by simp; omega), Int.toNat_natCast, rep_flat]
theorem begin_ok (hb : b.ok) : Fbegin [b.d] μ = some (.ok (begM b : Sd Int).d, μ) := by
  have h1 := hb.c
  have h2 := hb.s
  simp [Fbegin, B_begin, go, ixb0, ixb1, mul_rep (show b.nc ≤ 1000 by omega), mul_rep (show b.ns ≤ 1000 by omega), szL, begM, Sd.d, St.c, St.s, koD]
theorem rowbegin_ok (hr : r.ok) : Frow_begin [r.d] μ = some (.ok (stD r (begR r)), μ) := by
  cases r with
  | one a =>
    simp [Frow_begin, B_row_begin, go, Row.d, kcomp, wipeS, compL, noE, begin_ok hr, szL, stD, begR]
  | two a b =>
    obtain ⟨h1, h2, _⟩ := hr
    simp [Frow_begin, B_row_begin, go, Row.d, kcomp, wipeS, compL, noE, begin_ok h1, begin_ok h2, szL, stD, begR]
theorem rowfeed_ok (hr : r.ok) {t : Sd Int × Sd Int} (ht : stOk r t) {c : Card Int} : Frow_feed [r.d, stD r t, c.d] μ = some (.ok (.tup [stD r (feedR r t c).1, prD (feedR r t c).2]), μ) := by
  cases r with
  | one a =>
    have h := feed_ok (μ := μ) (c := c) (b := a) hr ht
    simp [Frow_feed, B_row_feed, go, Row.d, stD, h, szL, feedR]
  | two a b =>
    obtain ⟨h1, h2, _⟩ := hr
    have h := feed_ok (μ := μ) (c := c) h1 ht.1
    obtain ⟨h3, h4⟩ := feed_okM (c := c) h1 ht.1
    have hc := cards_ok (μ := μ) (ps := (feedM a t.1 c).2) (by omega)
    have hl := cards_len (feedM a t.1 c).2
    have hf := fed_ok (μ := μ) h2 ht.2 (cs := cardsM (feedM a t.1 c).2) (by omega)
    simp [Frow_feed, B_row_feed, go, Row.d, stD, h, hc, hf, szL, feedR]
theorem rowend_ok (hr : r.ok) {t : Sd Int × Sd Int} (ht : stOk r t) : Frow_end [r.d, stD r t] μ = some (.ok (prD (endR r t)), μ) := by
  cases r with
  | one a =>
    have h := fin_ok (μ := μ) (b := a) hr ht
    simp [Frow_end, B_row_end, go, Row.d, stD, h, szL, endR]
  | two a b =>
    obtain ⟨h1, h2, _⟩ := hr
    have h := fin_ok (μ := μ) h1 ht.1
    obtain ⟨h3, h4⟩ := fin_okM h1 ht.1
    have hc := cards_ok (μ := μ) (ps := (finM a t.1).2) (by omega)
    have hl := cards_len (finM a t.1).2
    have hf := fed_ok (μ := μ) h2 ht.2 (cs := cardsM (finM a t.1).2) (by omega)
    obtain ⟨h5, h6⟩ := fed_okM h2 (cardsM (finM a t.1).2) t.2 ht.2
    obtain ⟨h7, h8⟩ := fin_okM h2 h5
    have hg := fin_ok (μ := μ) h2 h5
    have z1 : (fedM b t.2 (cardsM (finM a t.1).2)).2.length + (finM b (fedM b t.2 (cardsM (finM a t.1).2)).1).2.length ≤ 16777216 := by omega
    simp only [prD] at h hc hf hg
    simp [Frow_end, B_row_end, go, Row.d, stD, h, hc, hf, hg, szL, z1, endR, prD]
theorem all_loop (hr : r.ok) : ∀ (cs : List (Card Int)) (acc : List D) (t : Sd Int × Sd Int) (dk e f : Sl), stOk r t → acc.length + 256 * cs.length ≤ 10000000 →
    ∃ e' f', forL (.name 4) (exs (.cons (.set (.pair (.name 2) (.name 5)) (.call Frow_feed (.cons (.var 0) (.cons (.var 2) (.cons (.var 4) .nil))))) (.cons (.set (.name 3) (.op .add (.var 3) (.var 5))) .nil))) (cs.map Card.d) [.d r.d, dk, .d (stD r t), .d (.tup acc), e, f] μ =
      some (.nx, [.d r.d, dk, .d (stD r (fedR r t cs).1), .d (.tup (acc ++ (fedR r t cs).2.map Pr.d)), e', f'], μ)
  | [], acc, t, dk, e, f, _, _ => ⟨e, f, by simp [forL, fedR]⟩
  | c :: cs, acc, t, dk, e, f, ht, hz => by
    obtain ⟨h1, h2⟩ := feedR_ok hr (c := c) ht
    simp only [List.length_cons] at hz
    obtain ⟨e', f', ih⟩ := all_loop hr cs (acc ++ (feedR r t c).2.map Pr.d) (feedR r t c).1 dk (.d c.d) (.d (prD (feedR r t c).2)) h1 (by simp; omega)
    have hf := rowfeed_ok (μ := μ) (c := c) hr ht
    refine ⟨e', f', ?_⟩
    have z1 : acc.length + (feedR r t c).2.length ≤ 16777216 := by omega
    simp only [prD] at hf ih
    simp [forL, hf, szL, z1]
    simp [List.append_assoc] at ih
    simp [fedR]
    exact ih
theorem all_ok (hr : r.ok) {cs : List (Card Int)} (hz : cs.length ≤ 3000) : Fall_printed [r.d, .tup (cs.map Card.d)] μ = some (.ok (prD (allR r cs)), μ) := by
  obtain ⟨e', f', h⟩ := all_loop (μ := μ) hr cs [] (begR r) (.d (.tup (cs.map Card.d))) .un .un begR_ok (by simp; omega)
  obtain ⟨h1, h2⟩ := fedR_ok hr cs (begR r : Sd Int × Sd Int) begR_ok
  have h3 := endR_len hr h1
  have he := rowend_ok (μ := μ) hr h1
  simp at h
  have z1 : (fedR r (begR r : Sd Int × Sd Int) cs).2.length + (endR r (fedR r (begR r : Sd Int × Sd Int) cs).1).length ≤ 16777216 := by omega
  simp only [prD] at he
  simp [Fall_printed, B_all_printed, go, rowbegin_ok hr, x_kfor, h, he, szL, z1, prD, allR]
end
end Mm
set_option Elab.async false
set_option linter.all false
set_option maxRecDepth 100000
set_option maxHeartbeats 4000000
/-! Mce: the laws' own machine: a dict with lists that change. -/
namespace Mm
open PySem L2 Mi Pg Ev Dr
/-- a machine of the law at n (counters), n + 1 (switches), n + 2 (the dict) -/
structure Hn (n : Nat) (b : Board) (t : Sd Int) (μ : List Mo) : Prop where
  d : μ[n + 2]? = some (.dct [("board", b.d), ("counters", .obj n), ("switches", .obj (n + 1)), ("key", koD t.k)])
  c : μ[n]? = some (.lst (t.s.cs.map .int))
  s : μ[n + 1]? = some (.lst (t.s.ss.map .bl))
/-- only these three are otherwise -/
structure Ch (n : Nat) (μ μ' : List Mo) : Prop where
  len : μ'.length = μ.length
  oth : ∀ m, (m < n ∨ n + 3 ≤ m) → μ'[m]? = μ[m]?
theorem Ch.refl {n : Nat} {μ : List Mo} : Ch n μ μ := ⟨rfl, fun _ _ => rfl⟩
theorem Ch.trans {n : Nat} {μ μ1 μ2 : List Mo} (a : Ch n μ μ1) (b : Ch n μ1 μ2) : Ch n μ μ2 := ⟨b.len.trans a.len, fun m h => (b.oth m h).trans (a.oth m h)⟩
theorem Ch.set {n k : Nat} {μ : List Mo} {o : Mo} (h : n ≤ k) (h2 : k < n + 3) : Ch n μ (μ.set k o) := ⟨by simp, fun m hm => by rw [List.getElem?_set_ne (by omega)]⟩
section
variable {μ : List Mo} {n : Nat} {b : Board} {t : Sd Int}
theorem lk_b {a c s k : D} : List.lookup ("board" : Str) [("board", a), ("counters", c), ("switches", s), ("key", k)] = some a := by kernel_rfl
theorem lk_c {a c s k : D} : List.lookup ("counters" : Str) [("board", a), ("counters", c), ("switches", s), ("key", k)] = some c := by kernel_rfl
theorem lk_s {a c s k : D} : List.lookup ("switches" : Str) [("board", a), ("counters", c), ("switches", s), ("key", k)] = some s := by kernel_rfl
theorem lk_k {a c s k : D} : List.lookup ("key" : Str) [("board", a), ("counters", c), ("switches", s), ("key", k)] = some k := by kernel_rfl
theorem pt_k {a c s k v : D} : putS [("board", a), ("counters", c), ("switches", s), ("key", k)] "key" v = [(("board" : Str), a), (("counters" : Str), c), (("switches" : Str), s), (("key" : Str), v)] := by kernel_rfl
theorem Hn.board (h : Hn n b t μ) : ixD μ (.obj (n + 2)) (.str "board") = some b.d := by simp only [ixD, see, h.d, lk_b]
theorem Hn.cnt (h : Hn n b t μ) : ixD μ (.obj (n + 2)) (.str "counters") = some (.obj n) := by simp only [ixD, see, h.d, lk_c]
theorem Hn.swi (h : Hn n b t μ) : ixD μ (.obj (n + 2)) (.str "switches") = some (.obj (n + 1)) := by simp only [ixD, see, h.d, lk_s]
theorem Hn.key (h : Hn n b t μ) : ixD μ (.obj (n + 2)) (.str "key") = some (koD t.k) := by simp only [ixD, see, h.d, lk_k]
theorem Hn.ci (h : Hn n b t μ) {i : Nat} (hi : i < t.s.cs.length) : ixD μ (.obj n) (.int i) = some (.int (t.s.cs.getD i 0)) := by rw [ix_o h.c, atI_map D.int 0 hi]
theorem Hn.si (h : Hn n b t μ) {i : Nat} (hi : i < t.s.ss.length) : ixD μ (.obj (n + 1)) (.int i) = some (.bl (t.s.ss.getD i false)) := by rw [ix_o h.s, atI_map D.bl false hi]
theorem put_l {m i : Nat} {xs : List D} {v : D} (h : μ[m]? = some (.lst xs)) (hi : i < xs.length) : putD μ (.obj m) (.int i) v = some (μ.set m (.lst (xs.set i v))) := by
  simp only [putD, h]
  unfold L2.ixN
  rw [if_pos (by omega), if_pos (by omega)]
  rfl
theorem lt_of {m : Nat} {o : Mo} (h : μ[m]? = some o) : m < μ.length := (List.getElem?_eq_some_iff.mp h).1
theorem Hn.pc (h : Hn n b t μ) {i : Nat} {v : Int} (hi : i < t.s.cs.length) : ∃ μ', putD μ (.obj n) (.int i) (.int v) = some μ' ∧ Hn n b ⟨⟨t.s.cs.set i v, t.s.ss⟩, t.k⟩ μ' ∧ Ch n μ μ' := by
  refine ⟨_, put_l h.c (by simpa using hi), ⟨?_, ?_, ?_⟩, .set (by omega) (by omega)⟩
  · rw [List.getElem?_set_ne (by omega)]; exact h.d
  · rw [List.getElem?_set_self (lt_of h.c)]; simp
  · rw [List.getElem?_set_ne (by omega)]; exact h.s
theorem Hn.ps (h : Hn n b t μ) {i : Nat} {v : Bool} (hi : i < t.s.ss.length) : ∃ μ', putD μ (.obj (n + 1)) (.int i) (.bl v) = some μ' ∧ Hn n b ⟨⟨t.s.cs, t.s.ss.set i v⟩, t.k⟩ μ' ∧ Ch n μ μ' := by
  refine ⟨_, put_l h.s (by simpa using hi), ⟨?_, ?_, ?_⟩, .set (by omega) (by omega)⟩
  · rw [List.getElem?_set_ne (by omega)]; exact h.d
  · rw [List.getElem?_set_ne (by omega)]; exact h.c
  · rw [List.getElem?_set_self (lt_of h.s)]; simp
theorem Hn.pk (h : Hn n b t μ) (k : Option Key) : ∃ μ', putD μ (.obj (n + 2)) (.str "key") (koD k) = some μ' ∧ Hn n b ⟨t.s, k⟩ μ' ∧ Ch n μ μ' := by
  refine ⟨μ.set (n + 2) (.dct [("board", b.d), ("counters", .obj n), ("switches", .obj (n + 1)), ("key", koD k)]), ?_, ⟨?_, ?_, ?_⟩, .set (by omega) (by omega)⟩
  · simp only [putD, h.d, lk_k, pt_k]
    simp
  · rw [List.getElem?_set_self (lt_of h.d)]
  · rw [List.getElem?_set_ne (by omega)]; exact h.c
  · rw [List.getElem?_set_ne (by omega)]; exact h.s
theorem lsource_ok (h : Hn n b t μ) (ht : t.ok b) {c : Card Int} {s : Src} {w : When} (hs : s.ok b.nc w) : F_law_source [.obj (n + 2), c.d, s.d] μ = some (.ok (.int (num t.s.cs c.x c.y s)), μ) := by
  cases s with
  | x => simp [F_law_source, B__law_source, go, Src.d, eq_xx, Card.d, num]
  | y => simp [F_law_source, B__law_source, go, Src.d, eq_yx, Card.d, num]
  | c i =>
    have hi : i < b.nc := hs
    simp [F_law_source, B__law_source, go, Src.d, h.cnt, h.ci (show i < t.s.cs.length by have := ht.1; omega), num]
theorem nin_tm {tm : Tm} {w : When} : Op.do .nin μ w.d (.lst tm.ws) = some (.bl (!tm.has w)) := by
  cases tm with
  | card h => cases h <;> cases w <;> kernel_rfl
  | brk m => cases m <;> cases w <;> kernel_rfl
theorem litems_comp (h : Hn n b t μ) (ht : t.ok b) {c : Card Int} {w : When} {ss : List Src} (hs : ∀ s ∈ ss, s.ok b.nc w) (hn : ss.length ≤ 3) {δ : List Sl} (h0 : δ[0]? = some (.d (.obj (n + 2)))) (h2 : δ[2]? = some (.d c.d)) (hd : δ.length = 11) :
    compL (.name 10) (ev (.con (.bl true))) (ev (.call F_law_source (.cons (.var 0) (.cons (.var 2) (.cons (.var 10) .nil))))) δ (ss.map Src.d) [] μ = some (.ok (.lst ((ss.map (num t.s.cs c.x c.y)).map .int)), μ) := by
  have := comp_map (μ := μ) (f := Src.d) (g := fun s => .int (num t.s.cs c.x c.y s)) (tg := .name 10) (keep := ev (.con (.bl true))) (elt := ev (.call F_law_source (.cons (.var 0) (.cons (.var 2) (.cons (.var 10) .nil))))) (δ := δ) (fun δ μ => by simp) ss [] (by rw [szL]; simp; omega) (fun s hx => ⟨_, rfl, by
    have a2 : (δ.set 10 (.d s.d))[0]? = some (.d (.obj (n + 2))) := by rw [List.getElem?_set_ne (by decide)]; exact h0
    have a4 : (δ.set 10 (.d s.d))[2]? = some (.d c.d) := by rw [List.getElem?_set_ne (by decide)]; exact h2
    have a10 : (δ.set 10 (.d s.d))[10]? = some (.d s.d) := by rw [List.getElem?_set_self (by omega)]
    simp [a2, a4, a10, lsource_ok h ht (hs s hx)]⟩)
  rw [List.nil_append] at this
  rw [this, List.map_map]
  rfl
end
def bodyGo : Ss := match B__law_go with
  | .cons _ (.cons (.for_ _ _ b) _) => b
  | _ => .nil
section
variable {n : Nat} {b : Board}
theorem go_loop (hb : b.ok) {tm : Tm} {c : Card Int} {ko : Option Key} : ∀ (ws : List Wire) (i : Nat) (acc : List D) (s : St Int) (μ : List Mo) (a1 a2 a3 a4 a5 a6 a7 : Sl), (∀ w ∈ ws, w.ok b.nc b.ns) → Hn n b ⟨s, ko⟩ μ → s.ok b.nc b.ns → acc.length + ws.length ≤ 1000000 →
    ∃ a1' a2' a3' a4' a5' a6' a7' μ', forL (.trip (.name 4) (.name 5) (.name 6)) (exs bodyGo) (ws.map Wire.d) [.d (.obj (n + 2)), .d (.lst tm.ws), .d c.d, .lin acc, a1, a2, a3, a4, a5, a6, a7] μ =
      some (.nx, [.d (.obj (n + 2)), .d (.lst tm.ws), .d c.d, .lin (acc ++ (passM tm c.k c.x c.y i ws s).2.map Pr.e), a1', a2', a3', a4', a5', a6', a7'], μ') ∧ Hn n b ⟨(passM tm c.k c.x c.y i ws s).1, ko⟩ μ' ∧ Ch n μ μ'
  | [], i, acc, s, μ, a1, a2, a3, a4, a5, a6, a7, _, hh, hs, hz => ⟨a1, a2, a3, a4, a5, a6, a7, μ, by simp [forL, passM], hh, .refl⟩
  | w :: ws, i, acc, s, μ, a1, a2, a3, a4, a5, a6, a7, hw, hh, hs, hz => by
    obtain ⟨k, h, x, y⟩ := c
    have hw1 := hw w List.mem_cons_self
    have hw2 : ∀ w ∈ ws, w.ok b.nc b.ns := fun y hy => hw y (List.mem_cons_of_mem _ hy)
    have hz1 : acc.length + ws.length ≤ 1000000 := by simp at hz; omega
    have hz0 : acc.length < 16777216 := by omega
    have hin := nin_tm (μ := μ) (tm := tm) (w := w.when)
    have hmj := eq_maj (μ := μ) (w := w.when)
    have hcut := sl_key (μ := μ) (k := k) (h := h) (x := x) (y := y)
    -- whether the switch is off
    have hoff : ∀ (δ : List Sl), δ[0]? = some (.d (.obj (n + 2))) → δ[5]? = some (.d (swD w.sw)) → ev (.and_ (.op .isn (.var 5) (.con .non)) (.op .ne (.idx (.idx (.var 0) (.con (.str "switches"))) (.idx (.var 5) (.con (.int (0))))) (.idx (.var 5) (.con (.int (1)))))) δ μ = some (.ok (.bl (!swOk s.ss w.sw)), μ) := by
      intro δ d0 d5
      rcases hsw : w.sw with _ | ⟨j, v⟩
      · rw [hsw] at d5
        simp [d5, swD, swOk]
      · rw [hsw] at d5
        have hj : j < b.ns := hw1.1 j v hsw
        simp [d0, d5, swD, swOk, hh.swi, hh.si (show j < s.ss.length by have := hs.2; omega), eq_bl]
    have hoff1 : ∀ a4, ev (.and_ (.op .isn (.var 5) (.con .non)) (.op .ne (.idx (.idx (.var 0) (.con (.str "switches"))) (.idx (.var 5) (.con (.int (0))))) (.idx (.var 5) (.con (.int (1)))))) [.d (.obj (n + 2)), .d (.lst tm.ws), .d (Card.d ⟨k, h, x, y⟩), .lin acc, .d w.when.d, .d (swD w.sw), .d w.act.d, a4, a5, a6, a7] μ = some (.ok (.bl (!swOk s.ss w.sw)), μ) := fun a4 => hoff _ rfl rfl
    clear hoff
    obtain ⟨O, hO⟩ : ∃ O, E.and_ (.op .isn (.var 5) (.con .non)) (.op .ne (.idx (.idx (.var 0) (.con (.str "switches"))) (.idx (.var 5) (.con (.int (0))))) (.idx (.var 5) (.con (.int (1))))) = O := ⟨_, rfl⟩
    rw [hO] at hoff1
    have hbody : bodyGo = .cons (.set (.name 7) O) (dropS 1 bodyGo) := by rw [← hO]; rfl
    by_cases ho : (tm.has w.when && swOk s.ss w.sw) = true
    · obtain ⟨ht, hsw⟩ := Bool.and_eq_true_iff.mp ho
      rw [ht] at hin
      rw [hsw] at hoff1
      simp at hin
      cases hp : isP w.act with
      | some ss =>
        have hact : w.act = .print ss := by cases hx : w.act <;> rw [hx] at hp <;> simp [isP] at hp; subst hp; rfl
        have hok := hw1.2
        rw [hact] at hok
        obtain ⟨o1, o2, o3⟩ : 1 ≤ ss.length ∧ ss.length ≤ 3 ∧ ∀ s ∈ ss, s.ok b.nc w.when := hok
        have hr : passM tm k x y i (w :: ws) s = ((passM tm k x y (i + 1) ws s).1, ⟨ss.map (num s.cs x y), k, whenMaj w.when, i⟩ :: (passM tm k x y (i + 1) ws s).2) := by
          rw [passM, if_pos ho, hp]
        simp only [hr]
        obtain ⟨a1', a2', a3', a4', a5', a6', a7', μ', ih, ih2, ih3⟩ := go_loop hb (tm := tm) (c := ⟨k, h, x, y⟩) ws (i + 1) (acc ++ [Pr.e ⟨ss.map (num s.cs x y), k, whenMaj w.when, i⟩]) s μ (.d w.when.d) (.d (swD w.sw)) (.d w.act.d) (.d (.bl false)) (.d (.tup ((ss.map (num s.cs x y)).map .int))) a6 a7 hw2 hh hs (by simp at hz ⊢; omega)
        have hic := litems_comp (c := ⟨k, h, x, y⟩) hh hs o3 o2 (δ := [.d (.obj (n + 2)), .d (.lst tm.ws), .d (Card.d ⟨k, h, x, y⟩), .lin acc, .d w.when.d, .d (swD w.sw), .d w.act.d, .d (.bl false), a5, a6, .un]) rfl rfl rfl
        refine ⟨a1', a2', a3', a4', a5', a6', a7', μ', ?_, ih2, ih3⟩
        obtain ⟨T, hT⟩ : ∃ T, D.lst tm.ws = T := ⟨_, rfl⟩
        rw [hT] at hin ih hic hoff1 ⊢
        rw [hbody] at ih ⊢
        rw [hact] at hic ih hoff1
        simp [Pr.e, Pr.it, Pr.hd] at ih
        simp [Act.d, keyD] at hic ih hcut hoff1 ⊢
        simp [forL, Wire.d, hact, Act.d, hoff1, dropS, bodyGo, B__law_go, hin, eq_pp, kcomp, wipeS, hic, hcut, hmj, szL, hz0]
        simp [dropS, bodyGo, B__law_go] at ih
        simp [Pr.e, Pr.it, Pr.hd]
        exact ih
      | none =>
        have hr : passM tm k x y i (w :: ws) s = passM tm k x y (i + 1) ws (stepA x y s w.act) := by
          rw [passM, if_pos ho, hp]
        simp only [hr]
        have hok := hw1.2
        have hs2 := step_ok (x := x) (y := y) (a := w.act) hs
        cases hx : w.act with
        | print ss => rw [hx] at hp; simp [isP] at hp
        | clear j =>
          rw [hx] at hok hoff1 hs2
          have hj : j < b.nc := hok
          obtain ⟨μ1, p1, p2, p3⟩ := hh.pc (i := j) (v := 0) (by have := hs.1; simp; omega)
          obtain ⟨a1', a2', a3', a4', a5', a6', a7', μ', ih, ih2, ih3⟩ := go_loop hb (tm := tm) (c := ⟨k, h, x, y⟩) ws (i + 1) acc (stepA x y s (.clear j)) μ1 (.d w.when.d) (.d (swD w.sw)) (.d (Act.d (.clear j))) (.d (.bl false)) a5 a6 a7 hw2 p2 hs2 hz1
          refine ⟨a1', a2', a3', a4', a5', a6', a7', μ', ?_, ih2, p3.trans ih3⟩
          obtain ⟨T, hT⟩ : ∃ T, D.lst tm.ws = T := ⟨_, rfl⟩
          rw [hT] at hin ih hoff1 ⊢
          rw [hbody] at ih ⊢
          simp [Act.d] at hoff1 ih
          simp [forL, Wire.d, hx, Act.d, hoff1, dropS, bodyGo, B__law_go, hin, eq_cp, eq_cs, eq_cc, hh.cnt, p1]
          simp [dropS, bodyGo, B__law_go] at ih
          exact ih
        | set j v =>
          rw [hx] at hok hoff1 hs2
          have hj : j < b.ns := hok
          obtain ⟨μ1, p1, p2, p3⟩ := hh.ps (i := j) (v := v) (by have := hs.2; simp; omega)
          obtain ⟨a1', a2', a3', a4', a5', a6', a7', μ', ih, ih2, ih3⟩ := go_loop hb (tm := tm) (c := ⟨k, h, x, y⟩) ws (i + 1) acc (stepA x y s (.set j v)) μ1 (.d w.when.d) (.d (swD w.sw)) (.d (Act.d (.set j v))) (.d (.bl false)) a5 a6 a7 hw2 p2 hs2 hz1
          refine ⟨a1', a2', a3', a4', a5', a6', a7', μ', ?_, ih2, p3.trans ih3⟩
          obtain ⟨T, hT⟩ : ∃ T, D.lst tm.ws = T := ⟨_, rfl⟩
          rw [hT] at hin ih hoff1 ⊢
          rw [hbody] at ih ⊢
          simp [Act.d] at hoff1 ih
          simp [forL, Wire.d, hx, Act.d, hoff1, dropS, bodyGo, B__law_go, hin, eq_sp, eq_ss, hh.swi, p1]
          simp [dropS, bodyGo, B__law_go] at ih
          exact ih
        | add l v j =>
          rw [hx] at hok hoff1 hs2
          obtain ⟨hv, hj⟩ : v.ok b.nc w.when ∧ j < b.nc := hok
          have hjl : j < s.cs.length := by have := hs.1; omega
          have hso := lsource_ok hh hs (c := ⟨k, h, x, y⟩) hv
          have hci := hh.ci (i := j) hjl
          obtain ⟨μ1, p1, p2, p3⟩ := hh.pc (i := j) (v := s.cs.getD j 0 + if l = true then -num s.cs x y v else num s.cs x y v) hjl
          obtain ⟨a1', a2', a3', a4', a5', a6', a7', μ', ih, ih2, ih3⟩ := go_loop hb (tm := tm) (c := ⟨k, h, x, y⟩) ws (i + 1) acc (stepA x y s (.add l v j)) μ1 (.d w.when.d) (.d (swD w.sw)) (.d (Act.d (.add l v j))) (.d (.bl false)) a5 (.d (.int (if l = true then -num s.cs x y v else num s.cs x y v))) a7 hw2 p2 hs2 hz1
          refine ⟨a1', a2', a3', a4', a5', a6', a7', μ', ?_, ih2, p3.trans ih3⟩
          obtain ⟨T, hT⟩ : ∃ T, D.lst tm.ws = T := ⟨_, rfl⟩
          rw [hT] at hin ih hoff1 ⊢
          rw [hbody] at ih ⊢
          have e1 := eq_ap (μ := μ) l
          have e2 := eq_as (μ := μ) l
          have e3 := eq_aa (μ := μ) l
          have e4 := eq_ac (μ := μ) l
          cases l <;> simp [Act.d] at hoff1 ih e1 e2 e3 e4 p1 hso hci <;> simp [forL, Wire.d, hx, Act.d, hoff1, dropS, bodyGo, B__law_go, hin, e1, e2, e3, e4, hh.cnt, hso, hci, p1] <;> simp [dropS, bodyGo, B__law_go] at ih <;> exact ih
    · have hr : passM tm k x y i (w :: ws) s = passM tm k x y (i + 1) ws s := by
        rw [passM, if_neg ho]
      simp only [hr]
      obtain ⟨a1', a2', a3', a4', a5', a6', a7', μ', ih, ih2, ih3⟩ := go_loop hb (tm := tm) (c := ⟨k, h, x, y⟩) ws (i + 1) acc s μ (.d w.when.d) (.d (swD w.sw)) (.d w.act.d) (.d (.bl (!swOk s.ss w.sw))) a5 a6 a7 hw2 hh hs hz1
      refine ⟨a1', a2', a3', a4', a5', a6', a7', μ', ?_, ih2, ih3⟩
      obtain ⟨T, hT⟩ : ∃ T, D.lst tm.ws = T := ⟨_, rfl⟩
      rw [hT] at hin ih hoff1 ⊢
      rw [hbody] at ih ⊢
      cases ht : tm.has w.when with
      | false =>
        rw [ht] at hin
        simp [forL, Wire.d, hoff1, dropS, bodyGo, B__law_go, hin]
        simp [dropS, bodyGo, B__law_go] at ih
        exact ih
      | true =>
        rw [ht] at hin ho
        cases hq : swOk s.ss w.sw with
        | true => rw [hq] at ho; simp at ho
        | false =>
          rw [hq] at hoff1 ih
          simp [forL, Wire.d, hoff1, dropS, bodyGo, B__law_go, hin]
          simp [dropS, bodyGo, B__law_go] at ih
          exact ih
end
end Mm
set_option Elab.async false
set_option linter.all false
set_option maxRecDepth 100000
set_option maxHeartbeats 4000000
/-! Mcf: the laws' own machine: cards, rows, sheets. -/
namespace Mm
open PySem L2 Mi Pg Ev Dr
def peD (ps : List (Pr Int)) : D := .lst (ps.map Pr.e)
section
variable {n : Nat} {b : Board} {μ : List Mo}
theorem go_ok (hb : b.ok) {tm : Tm} {c : Card Int} {ko : Option Key} {s : St Int} (hh : Hn n b ⟨s, ko⟩ μ) (hs : s.ok b.nc b.ns) :
    ∃ μ', F_law_go [.obj (n + 2), .lst tm.ws, c.d] μ = some (.ok (peD (passM tm c.k c.x c.y 0 b.ws s).2), μ') ∧ Hn n b ⟨(passM tm c.k c.x c.y 0 b.ws s).1, ko⟩ μ' ∧ Ch n μ μ' := by
  have hl := hb.l
  obtain ⟨a1, a2, a3, a4, a5, a6, a7, μ', h, h2, h3⟩ := go_loop hb (tm := tm) (c := c) (ko := ko) b.ws 0 [] s μ .un .un .un .un .un .un .un hb.w hh hs (by simp; omega)
  refine ⟨μ', ?_, h2, h3⟩
  have hi : ixD μ b.d (.int 2) = some (.tup (b.ws.map Wire.d)) := by simp [Board.d]
  simp [bodyGo, B__law_go] at h
  simp [F_law_go, B__law_go, go, szL, hh.board, hi, x_kfor, h, peD]
theorem add_brk {k : Key} : addD μ (keyD k) (.tup [.bl false, .int 0, .int 0]) = some (Card.d ⟨k, false, 0, 0⟩) := by simp [keyD, Card.d, szL]
theorem last_ok (hb : b.ok) {t : Sd Int} (hh : Hn n b t μ) (ht : t.ok b) :
    ∃ μ', F_law_last [.obj (n + 2)] μ = some (.ok (peD (finM b t).2), μ') ∧ Hn n b (finM b t).1 μ' ∧ Ch n μ μ' := by
  obtain ⟨s, ko⟩ := t
  have hkey := hh.key
  obtain ⟨μ2, k1, k2, k3⟩ := hh.pk none
  simp only [koD] at k1
  cases ko with
  | none =>
    refine ⟨μ2, ?_, k2, k3⟩
    simp [koD] at hkey
    simp [F_law_last, B__law_last, go, szL, hkey, k1, finM, peD]
  | some k0 =>
    simp only [koD] at hkey
    obtain ⟨μ3, g1, g2, g3⟩ := go_ok hb (tm := .brk true) (c := ⟨k0, false, 0, 0⟩) k2 ht
    simp [Tm.ws] at g1 g2
    refine ⟨μ3, ?_, by simpa [finM] using g2, k3.trans g3⟩
    simp [F_law_last, B__law_last, go, szL, hkey, k1, isn_key, add_brk, g1, finM, peD]
/-- memory that only grows -/
structure Gr (μ μ' : List Mo) : Prop where
  le : μ.length ≤ μ'.length
  old : ∀ m, m < μ.length → μ'[m]? = μ[m]?
theorem Gr.refl {μ : List Mo} : Gr μ μ := ⟨Nat.le_refl _, fun _ _ => rfl⟩
theorem Gr.trans {μ μ1 μ2 : List Mo} (a : Gr μ μ1) (b : Gr μ1 μ2) : Gr μ μ2 := ⟨Nat.le_trans a.le b.le, fun m h => (b.old m (Nat.lt_of_lt_of_le h a.le)).trans (a.old m h)⟩
theorem Gr.app {μ l : List Mo} : Gr μ (μ ++ l) := ⟨by simp, fun m h => by rw [List.getElem?_append_left h]⟩
end
end Mm
set_option Elab.async false
set_option linter.all false
set_option maxRecDepth 100000
set_option maxHeartbeats 4000000
/-! Mcg: rows of the laws' machines, sheets. -/
namespace Mm
open PySem L2 Mi Pg Ev Dr
section
variable {n : Nat} {r : Row} {μ : List Mo}
theorem comp_cons {tg : Tg} {keep elt : List Sl → List Mo → RM D} {δ δ1 : List Sl} {x d : D} {xs acc : List D} {μ μ1 μ2 : List Mo} (p : tg.put x δ = some δ1) (k : keep δ1 μ = some (.ok (.bl true), μ1)) (e : elt δ1 μ1 = some (.ok d, μ2)) (hz : acc.length < sizeLine) : compL tg keep elt δ (x :: xs) acc μ = compL tg keep elt δ xs (acc ++ [d]) μ2 := by
  simp [compL, p, k, noE, e]
  exact fun h => absurd hz (by omega)
end
end Mm
set_option Elab.async false
set_option linter.all false
set_option maxRecDepth 100000
set_option maxHeartbeats 4000000
/-! Dka: decks and rows that are, and that are none; decks drawn. -/
namespace Mm
open PySem L2 Mi Pg Ev Dr
/-- keys that do not fall -/
def kle (a b : Key) : Prop := a.1 < b.1 ∨ (a.1 = b.1 ∧ a.2 ≤ b.2)
structure Card.ok (c : Card Int) : Prop where
  j0 : 0 ≤ c.k.1
  j1 : c.k.1 ≤ 1000000000
  n0 : 0 ≤ c.k.2
  n1 : c.k.2 ≤ 1000000000
  x0 : -1000000000000000000000000000000 ≤ c.x
  x1 : c.x ≤ 1000000000000000000000000000000
  y0 : -1000000000000000000000000000000 ≤ c.y
  y1 : c.y ≤ 1000000000000000000000000000000
section
variable {μ : List Mo}
/-- a comprehension with a test -/
theorem comp_keep {α : Type} {p : α → Bool} {f g : α → D} {tg : Tg} {keep elt : List Sl → List Mo → RM D} {δ : List Sl} : ∀ (xs : List α) (acc : List D), acc.length + xs.length ≤ sizeLine →
    (∀ x ∈ xs, ∃ δ1, tg.put (f x) δ = some δ1 ∧ keep δ1 μ = some (.ok (.bl (p x)), μ) ∧ (p x = true → elt δ1 μ = some (.ok (g x), μ))) → compL tg keep elt δ (xs.map f) acc μ = some (.ok (.lst (acc ++ (xs.filter p).map g)), μ)
  | [], acc, _, _ => by simp [compL, retR]
  | x :: xs, acc, hz, h => by
    obtain ⟨δ1, q, k, e⟩ := h x List.mem_cons_self
    have hz2 : acc.length < sizeLine := by simp at hz; omega
    cases hp : p x with
    | true =>
      rw [hp] at k
      rw [List.map_cons, comp_cons q k (e hp) hz2, comp_keep xs (acc ++ [g x]) (by simp at hz ⊢; omega) fun y hy => h y (List.mem_cons_of_mem _ hy)]
      simp [hp]
    | false =>
      rw [hp] at k
      simp [compL, q, k, noE, comp_keep xs acc (by simp at hz; omega) fun y hy => h y (List.mem_cons_of_mem _ hy), hp]
end
end Mm
set_option Elab.async false
set_option linter.all false
set_option maxRecDepth 100000
set_option maxHeartbeats 4000000
/-! Dkb: decks drawn. -/
namespace Mm
open PySem L2 Mi Pg Ev Dr
/-- what the loop keeps -/
structure PackI (B : Int) (cs : List (Card Int)) (j m : Int) : Prop where
  all : ∀ c ∈ cs, c.ok
  asc : (cs.map Card.k).Pairwise kle
  top : ∀ c ∈ cs, kle c.k (j, m)
  j0 : 0 ≤ j
  j1 : j ≤ B
  m0 : 0 ≤ m
  m1 : m ≤ B
theorem kle_trans {a b c : Key} (h : kle a b) (g : kle b c) : kle a c := by
  unfold kle at *; omega
theorem PackI.up {B B' : Int} {cs : List (Card Int)} {j m j' m' : Int} (h : PackI B cs j m) (k : kle (j, m) (j', m')) (j0 : 0 ≤ j') (j1 : j' ≤ B') (m0 : 0 ≤ m') (m1 : m' ≤ B') : PackI B' cs j' m' :=
  ⟨h.all, h.asc, fun c hc => kle_trans (h.top c hc) k, j0, j1, m0, m1⟩
theorem PackI.push {B : Int} {cs : List (Card Int)} {j m : Int} (h : PackI B cs j m) (hB : B ≤ 1000000) {x y : Int} {b : Bool} (x0 : -1000000000000000000000000000000 ≤ x) (x1 : x ≤ 1000000000000000000000000000000) (y0 : -1000000000000000000000000000000 ≤ y) (y1 : y ≤ 1000000000000000000000000000000) : PackI B (cs ++ [⟨(j, m), b, x, y⟩]) j m := by
  have h1 := h.j1
  have h2 := h.m1
  refine ⟨fun c hc => ?_, ?_, fun c hc => ?_, h.j0, h.j1, h.m0, h.m1⟩
  · rcases List.mem_append.mp hc with hc | hc
    · exact h.all c hc
    · simp at hc
      subst hc
      exact ⟨h.j0, by show j ≤ _; omega, h.m0, by show m ≤ _; omega, x0, x1, y0, y1⟩
  · rw [List.map_append, List.pairwise_append]
    refine ⟨h.asc, by simp, fun a ha b hb => ?_⟩
    simp at hb
    subst hb
    obtain ⟨c, hc, rfl⟩ := List.mem_map.mp ha
    exact h.top c hc
  · rcases List.mem_append.mp hc with hc | hc
    · exact h.top c hc
    · simp at hc
      subst hc
      exact .inr ⟨rfl, Int.le_refl _⟩
end Mm
set_option Elab.async false
set_option linter.all false
set_option maxRecDepth 100000
set_option maxHeartbeats 4000000
/-! Wrp: boards written by the program, and the law's lines. -/
namespace Dr
open PySem L2 Mi Pg Ev
end Dr
set_option Elab.async false
set_option linter.all false
set_option maxRecDepth 100000
set_option maxHeartbeats 4000000
/-! Wrr: texts of boards read. -/
namespace Dr
open PySem L2 Mi Pg Ev
/-! ### joined texts -/
theorem sok (z : Str) : PyData.strOk z = true ↔ ∀ c ∈ TL.tl z, c < 1114112 := by
  unfold PyData.strOk TL.tl
  rw [← Array.all_toList, List.all_eq_true]
  simp only [decide_eq_true_eq]
end Dr
set_option Elab.async false
set_option linter.all false
set_option maxRecDepth 100000
set_option maxHeartbeats 4000000
/-! Wrs: texts of boards read back. -/
namespace Dr
open PySem L2 Mi Pg Ev
end Dr
set_option Elab.async false
set_option linter.all false
set_option maxRecDepth 100000
set_option maxHeartbeats 4000000
/-! Wru: boards read back. -/
namespace Dr
open PySem L2 Mi Pg Ev
end Dr
set_option Elab.async false
set_option linter.all false
set_option maxRecDepth 100000
set_option maxHeartbeats 4000000
/-! Wrv: what draws come from. -/
namespace Dr
open PySem L2 Mi Pg Ev
section
variable {μ : List Mo}
theorem pow18 : Op.do .pow μ (.int 10) (.int 18) = some (.int 1000000000000000000) := by kernel_rfl
theorem mul_s {i j : Int} (h : small64 j = true) : mulD (.int i) (.int j) = some (.int (i * j)) := by
  show (if mulOk i j = true then _ else _) = _
  rw [if_pos (by unfold mulOk; rw [h]; simp)]
theorem mul_t {i j : Int} (h : small64 i = true) : mulD (.int i) (.int j) = some (.int (i * j)) := by
  show (if mulOk i j = true then _ else _) = _
  rw [if_pos (by unfold mulOk; rw [h]; simp)]
/-- a thing that comes anew -/
def VatNew (μ μ' : List Mo) : Prop := ∃ a b : Int, μ' = μ ++ [.lst [.int a, .int b]] ∧ 0 ≤ a ∧ 0 ≤ b ∧ b < 2 ^ 32
theorem vat_end {ns : List Int} {k : Nat} (hk : k ≤ 1000) {c : Int} (hc : 0 ≤ c) : ∃ μ', fin (exs (dropS 2 B__law_vat) [.d (.scr ns), .d (.int k), .d (.int c)] μ) = some (.ok (.obj μ.length), μ') ∧ VatNew μ μ' := by
  have s1 : small64 131071 = true := by decide
  have s2 : small64 8191 = true := by decide
  have hd : (0 : Int) < 2147483629 := by decide
  obtain ⟨b, hb⟩ : ∃ b, (c * 131071 + 8191 * k + 5) % 2147483629 = b := ⟨_, rfl⟩
  have b0 : 0 ≤ b := by rw [← hb]; exact Int.emod_nonneg _ (by decide)
  have b1 : b < 2147483629 := by rw [← hb]; exact Int.emod_lt_of_pos _ hd
  by_cases h : 1000000000000000000 ≤ c
  · refine ⟨_, ?_, c, b + 1, rfl, hc, by omega, by omega⟩
    simp [dropS, B__law_vat, pow18, h, mul_s s1, mul_t s2, hb, szL]
  · refine ⟨_, ?_, 0, b + 1, rfl, by omega, by omega, by omega⟩
    simp [dropS, B__law_vat, pow18, h, mul_s s1, mul_t s2, hb, szL]
theorem vat_spec {ns : List Int} {k : Nat} (hk : k ≤ 1000) : ∃ μ', F_law_vat [.scr ns, .int k] μ = some (.ok (.obj μ.length), μ') ∧ VatNew μ μ' := by
  have s1 : small64 7919 = true := by decide
  by_cases h : (k : Int) < ns.length
  · obtain ⟨z, _, hz⟩ := atI_of (xs := ns) (show (0 : Int) ≤ k by omega) h
    obtain ⟨μ', e, v⟩ := vat_end (μ := μ) (ns := ns) hk (c := if z < 0 then -z else z) (by split <;> omega)
    refine ⟨μ', ?_, v⟩
    rw [← e]
    simp [F_law_vat, B__law_vat, go, mul_t s1, h, hz]
    simp [dropS]
  · obtain ⟨μ', e, v⟩ := vat_end (μ := μ) (ns := ns) hk (c := 7919 * k + 43) (by omega)
    refine ⟨μ', ?_, v⟩
    rw [← e]
    simp [F_law_vat, B__law_vat, go, mul_t s1, h]
    simp [dropS]
theorem VatNew.vat {μ μ' : List Mo} (h : VatNew μ μ') : Vat μ' μ.length := by
  obtain ⟨a, b, rfl, h1, h2, h3⟩ := h
  exact ⟨a, b, by simp, h1, h2, h3⟩
end
end Dr
set_option Elab.async false
set_option linter.all false
set_option maxRecDepth 100000
set_option maxHeartbeats 4000000
/-! Mch: sheets, summaries, standings as the program returns them; forms of data. -/
namespace Mm
open PySem L2 Mi Pg Ev Dr
end Mm
set_option Elab.async false
set_option linter.all false
set_option maxRecDepth 100000
set_option maxHeartbeats 4000000
/-! Dkc: near boards; the first line that is unlike. -/
namespace Mm
open PySem L2 Mi Pg Ev Dr
end Mm
set_option Elab.async false
set_option linter.all false
set_option maxRecDepth 100000
set_option maxHeartbeats 4000000
/-! Kva: any values: what the program's checks say of them. -/
namespace Kv
open PySem L2 Mi Pg Ev Dr Mm
section
variable {μ : List Mo} {i : Int} {b : Bool} {z : Str} {xs : List D}
@[simp] theorem is_n_tuple : Bi.do .isi μ [.non, .ty "tuple"] = some (.bl false) := nr rfl
@[simp] theorem is_n_int : Bi.do .isi μ [.non, .ty "int"] = some (.bl false) := nr rfl
@[simp] theorem is_n_bool : Bi.do .isi μ [.non, .ty "bool"] = some (.bl false) := nr rfl
@[simp] theorem is_n_str : Bi.do .isi μ [.non, .ty "str"] = some (.bl false) := nr rfl
@[simp] theorem is_n_list : Bi.do .isi μ [.non, .ty "list"] = some (.bl false) := nr rfl
@[simp] theorem is_b_tuple : Bi.do .isi μ [(.bl b), .ty "tuple"] = some (.bl false) := nr rfl
@[simp] theorem is_b_int : Bi.do .isi μ [(.bl b), .ty "int"] = some (.bl true) := nr rfl
@[simp] theorem is_b_bool : Bi.do .isi μ [(.bl b), .ty "bool"] = some (.bl true) := nr rfl
@[simp] theorem is_b_str : Bi.do .isi μ [(.bl b), .ty "str"] = some (.bl false) := nr rfl
@[simp] theorem is_b_list : Bi.do .isi μ [(.bl b), .ty "list"] = some (.bl false) := nr rfl
@[simp] theorem is_i_tuple : Bi.do .isi μ [(.int i), .ty "tuple"] = some (.bl false) := nr rfl
@[simp] theorem is_i_int : Bi.do .isi μ [(.int i), .ty "int"] = some (.bl true) := nr rfl
@[simp] theorem is_i_bool : Bi.do .isi μ [(.int i), .ty "bool"] = some (.bl false) := nr rfl
@[simp] theorem is_i_str : Bi.do .isi μ [(.int i), .ty "str"] = some (.bl false) := nr rfl
@[simp] theorem is_i_list : Bi.do .isi μ [(.int i), .ty "list"] = some (.bl false) := nr rfl
@[simp] theorem is_s_tuple : Bi.do .isi μ [(.str z), .ty "tuple"] = some (.bl false) := nr rfl
@[simp] theorem is_s_int : Bi.do .isi μ [(.str z), .ty "int"] = some (.bl false) := nr rfl
@[simp] theorem is_s_bool : Bi.do .isi μ [(.str z), .ty "bool"] = some (.bl false) := nr rfl
@[simp] theorem is_s_str : Bi.do .isi μ [(.str z), .ty "str"] = some (.bl true) := nr rfl
@[simp] theorem is_s_list : Bi.do .isi μ [(.str z), .ty "list"] = some (.bl false) := nr rfl
@[simp] theorem is_t_tuple : Bi.do .isi μ [(.tup xs), .ty "tuple"] = some (.bl true) := nr rfl
@[simp] theorem is_t_int : Bi.do .isi μ [(.tup xs), .ty "int"] = some (.bl false) := nr rfl
@[simp] theorem is_t_bool : Bi.do .isi μ [(.tup xs), .ty "bool"] = some (.bl false) := nr rfl
@[simp] theorem is_t_str : Bi.do .isi μ [(.tup xs), .ty "str"] = some (.bl false) := nr rfl
@[simp] theorem is_t_list : Bi.do .isi μ [(.tup xs), .ty "list"] = some (.bl false) := nr rfl
@[simp] theorem is_l_tuple : Bi.do .isi μ [(.lst xs), .ty "tuple"] = some (.bl false) := nr rfl
@[simp] theorem is_l_int : Bi.do .isi μ [(.lst xs), .ty "int"] = some (.bl false) := nr rfl
@[simp] theorem is_l_bool : Bi.do .isi μ [(.lst xs), .ty "bool"] = some (.bl false) := nr rfl
@[simp] theorem is_l_str : Bi.do .isi μ [(.lst xs), .ty "str"] = some (.bl false) := nr rfl
@[simp] theorem is_l_list : Bi.do .isi μ [(.lst xs), .ty "list"] = some (.bl true) := nr rfl
@[simp] theorem isn_n : isD .non .non = some true := nr rfl
@[simp] theorem isn_b : isD (.bl b) .non = some false := nr rfl
@[simp] theorem isn_i : isD (.int i) .non = some false := nr rfl
@[simp] theorem isn_s : isD (.str z) .non = some false := nr rfl
@[simp] theorem isn_l : isD (.lst xs) .non = some false := nr rfl
end
/-! ### what is what -/
def wholeB (lo hi : Int) : D → Bool
  | .int i => decide (lo ≤ i) && decide (i ≤ hi)
  | _ => false
def isBl : D → Bool
  | .bl _ => true
  | _ => false
def cardyB (w : Str) : Bool := w == "card" || w == "hole" || w == "plain"
def srcB (nc : Int) (w : Str) : D → Bool
  | .str z => (z == "x" || z == "y") && cardyB w
  | d => wholeB 0 (nc - 1) d
def printB (nc : Int) (w : Str) : D → Bool
  | .tup its => decide (1 ≤ its.length) && decide (its.length ≤ 3) && its.all (srcB nc w)
  | _ => false
def actB (nc ns : Int) (w : Str) : D → Bool
  | .tup [.str z, a] => if z == "clear" then wholeB 0 (nc - 1) a else if z == "print" then printB nc w a else false
  | .tup [.str z, a, b] => if z == "add" || z == "less" then srcB nc w a && wholeB 0 (nc - 1) b else if z == "set" then wholeB 0 (ns - 1) a && isBl b else false
  | _ => false
def timeB (w : Str) : Bool := w == "card" || w == "hole" || w == "plain" || w == "minor" || w == "major"
def swB (ns : Int) : D → Bool
  | .non => true
  | .tup [a, .bl _] => wholeB 0 (ns - 1) a
  | _ => false
def wireB (nc ns : Int) : D → Bool
  | .tup [.str w, s, a] => timeB w && (swB ns s && actB nc ns w a)
  | _ => false
def boardB : D → Bool
  | .tup [.int nc, .int ns, .tup ws] => wholeB 0 3 (.int nc) && wholeB 0 2 (.int ns) && decide (ws.length ≤ 8) && ws.all (wireB nc ns)
  | _ => false
/-! ### the program -/
section
variable {μ : List Mo} {n : Nat}
theorem whole_B {d : D} (h : okN n d = true) {lo hi : Int} : Fis_whole [d, .int lo, .int hi] μ = some (.ok (.bl (wholeB lo hi d)), μ) := by
  cases d with
  | int i =>
    by_cases h1 : lo ≤ i
    · simp [Fis_whole, B_is_whole, go, wholeB, h1]
    · simp [Fis_whole, B_is_whole, go, wholeB, h1]
  | ty _ => cases n <;> simp [okN] at h
  | glo _ => cases n <;> simp [okN] at h
  | obj _ => cases n <;> simp [okN] at h
  | scr _ => cases n <;> simp [okN] at h
  | _ => simp [Fis_whole, B_is_whole, go, wholeB]
theorem okS {z : Str} (h : okN n (.str z) = true) : PyData.strOk z = true := by cases n <;> simpa [okN] using h
theorem in_str {z : Str} (hz : PyData.strOk z = true) {ws : List Str} (hw : ∀ w ∈ ws, PyData.strOk w = true) : inD μ (.str z) (.tup (ws.map .str)) = some (ws.any fun w => z == w) := by
  rw [inD_t (ok_str z 64 hz) (okNs_all fun x hx => by
    obtain ⟨w, hw', rfl⟩ := List.mem_map.mp hx
    exact ok_str w 63 (hw w hw'))]
  congr 1
  rw [List.any_map]
  congr 1
  funext w
  show (w == z) = (z == w)
  exact BEq.comm
theorem in_strl {z : Str} (hz : PyData.strOk z = true) {ws : List Str} (hw : ∀ w ∈ ws, PyData.strOk w = true) : inD μ (.str z) (.lst (ws.map .str)) = some (ws.any fun w => z == w) := by
  rw [inD_l (ok_str z 64 hz) (okNs_all fun x hx => by
    obtain ⟨w, hw', rfl⟩ := List.mem_map.mp hx
    exact ok_str w 63 (hw w hw'))]
  congr 1
  rw [List.any_map]
  congr 1
  funext w
  show (w == z) = (z == w)
  exact BEq.comm
@[simp] theorem o_in {a c : D} : Op.do .in_ μ a c = (inD μ a c).map .bl := nr rfl
@[simp] theorem o_nin {a c : D} : Op.do .nin μ a c = (inD μ a c).map fun r => .bl (!r) := nr rfl
theorem src_B {d : D} (h : okN n d = true) {nc ns : Int} {r : D} {w : Str} (hw : timeB w = true) : Fis_source [.tup [.int nc, .int ns, r], .str w, d] μ = some (.ok (.bl (srcB nc w d)), μ) := by
  have hwk : PyData.strOk w = true ∧ inD μ (.str w) (.tup [.str "minor", .str "major"]) = some (!cardyB w) := by
    have hc : w = "card" ∨ w = "hole" ∨ w = "plain" ∨ w = "minor" ∨ w = "major" := by
      simp [timeB] at hw
      rcases hw with (((h | h) | h) | h) | h <;> simp [h]
    rcases hc with rfl | rfl | rfl | rfl | rfl <;> exact ⟨by decide +kernel, by kernel_rfl⟩
  have other : ∀ d : D, okN n d = true → (∀ z, d ≠ .str z) → Bi.do .isi μ [d, .ty "str"] = some (.bl false) → Fis_source [.tup [.int nc, .int ns, r], .str w, d] μ = some (.ok (.bl (wholeB 0 (nc - 1) d)), μ) := by
    intro d hd hn hi
    have := whole_B (μ := μ) hd (lo := 0) (hi := nc - 1)
    simp [Fis_source, B_is_source, go, hi, this]
  cases d with
  | str z =>
    have h1 := in_str (μ := μ) (okS h) (ws := ["x", "y"]) (by decide +kernel)
    simp at h1
    cases hx : (z == ("x" : Str) || z == ("y" : Str)) with
    | true =>
      simp at hx
      have h2 : inD μ (.str z) (.tup [.str "x", .str "y"]) = some true := by rw [h1]; simp [hx]
      simp [Fis_source, B_is_source, go, szL, h2, hwk.2, srcB, hx]
    | false =>
      simp at hx
      have h2 : inD μ (.str z) (.tup [.str "x", .str "y"]) = some false := by rw [h1]; simp [hx]
      simp [Fis_source, B_is_source, go, szL, h2, srcB, hx]
  | ty _ => cases n <;> simp [okN] at h
  | glo _ => cases n <;> simp [okN] at h
  | obj _ => cases n <;> simp [okN] at h
  | scr _ => cases n <;> simp [okN] at h
  | non => exact other _ h (by simp) (by simp)
  | bl _ => exact other _ h (by simp) (by simp)
  | int _ => exact other _ h (by simp) (by simp)
  | tup _ => exact other _ h (by simp) (by simp)
  | lst _ => exact other _ h (by simp) (by simp)
theorem okNs_mem {xs : List D} (h : okNs n xs = true) : ∀ x ∈ xs, okN n x = true := by
  intro x hx
  induction xs with
  | nil => cases hx
  | cons y ys ih =>
    simp only [okNs, Bool.and_eq_true] at h
    rcases List.mem_cons.mp hx with rfl | hx
    · exact h.1
    · exact ih h.2 hx
theorem ok_tup {n : Nat} {xs : List D} (h : okN n (.tup xs) = true) : ∃ m, n = m + 1 ∧ okNs m xs = true := by
  cases n with
  | zero => simp [okN] at h
  | succ m => exact ⟨m, rfl, by simpa [okN] using h⟩
/-- those of which a check says no -/
theorem comp_bad {xs : List D} {p : D → Bool} {i : Nat} {δ : List Sl} {c : E} (hl : xs.length ≤ 1000000) (hi : i < δ.length) (h : ∀ x ∈ xs, ev c (δ.set i (.d x)) μ = some (.ok (.bl (p x)), μ)) : compL (.name i) (ev (.not_ c)) (ev (.var i)) δ xs [] μ = some (.ok (.lst (xs.filter fun x => !p x)), μ) := by
  have := comp_keep (μ := μ) (p := fun x => !p x) (f := fun x : D => x) (g := fun x => x) (tg := .name i) (keep := ev (.not_ c)) (elt := ev (.var i)) (δ := δ) xs [] (by rw [szL]; simp; omega) (fun x hx => ⟨_, rfl, by simp [h x hx], fun _ => by
    have : (δ.set i (.d x))[i]? = some (.d x) := by rw [List.getElem?_set_self hi]
    simp [this]⟩)
  simpa using this
theorem filter_all {α : Type} {p : α → Bool} : ∀ xs : List α, (xs.filter fun x => !p x).isEmpty = xs.all p
  | [] => rfl
  | x :: xs => by
    cases h : p x with
    | true => simp [h, filter_all xs]
    | false => simp [h]
theorem okNs_filter {xs : List D} (h : okNs n xs = true) (p : D → Bool) : okNs n (xs.filter p) = true := okNs_all fun x hx => okNs_mem h x ((List.mem_filter.mp hx).1)
theorem eq_bad {xs : List D} {p : D → Bool} (hn : n ≤ 63) (h : okNs n xs = true) : eqD μ (.lst (xs.filter fun x => !p x)) (.lst []) = some (xs.all p) := by
  rw [eq_lnil (okNs_mono n 63 _ hn (okNs_filter h _)), filter_all]
theorem printing_B {d : D} (h : okN n d = true) (hn : n ≤ 63) {nc ns : Int} {r : D} {w : Str} (hw : timeB w = true) : Fis_printing [.tup [.int nc, .int ns, r], .str w, d] μ = some (.ok (.bl (printB nc w d)), μ) := by
  cases d with
  | ty _ => cases n <;> simp [okN] at h
  | glo _ => cases n <;> simp [okN] at h
  | obj _ => cases n <;> simp [okN] at h
  | scr _ => cases n <;> simp [okN] at h
  | tup its =>
    obtain ⟨m, rfl, ho⟩ := ok_tup h
    by_cases h1 : 1 ≤ its.length
    · by_cases h3 : its.length ≤ 3
      · have k1 : (1 : Int) ≤ its.length := by omega
        have k3 : (its.length : Int) ≤ 3 := by omega
        have e := comp_bad (μ := μ) (xs := its) (p := srcB nc w) (i := 3) (δ := [.d (.tup [.int nc, .int ns, r]), .d (.str w), .d (.tup its), .un]) (c := .call Fis_source (.cons (.var 0) (.cons (.var 1) (.cons (.var 3) .nil)))) (by omega) (by simp) (fun x hx => by
          simp [src_B (μ := μ) (okNs_mem ho x hx) hw])
        have e2 := eq_bad (μ := μ) (p := srcB nc w) (show m ≤ 63 by omega) ho
        simp [Fis_printing, B_is_printing, go, printB, k1, k3, h1, h3, kcomp, wipeS, e, szL, e2]
      · have k1 : (1 : Int) ≤ its.length := by omega
        have k3 : ¬ (its.length : Int) ≤ 3 := by omega
        simp [Fis_printing, B_is_printing, go, printB, k1, k3, h3]
    · have k1 : ¬ (1 : Int) ≤ its.length := by omega
      simp [Fis_printing, B_is_printing, go, printB, k1, h1]
  | _ => simp [Fis_printing, B_is_printing, go, printB]
end
end Kv
set_option Elab.async false
set_option linter.all false
set_option maxRecDepth 100000
set_option maxHeartbeats 4000000
/-! Kvb: any values: actions, wires, boards, rows by the program. -/
namespace Kv
open PySem L2 Mi Pg Ev Dr Mm
section
variable {μ : List Mo} {n : Nat}
theorem in_addless {z : Str} (hz : PyData.strOk z = true) : inD μ (.str z) (.tup [.str "add", .str "less"]) = some (z == ("add" : Str) || z == ("less" : Str)) := by
  have := in_str (μ := μ) hz (ws := ["add", "less"]) (by decide +kernel)
  simpa using this
theorem tup_ne {x : D} {xs : List D} {m : Nat} (hm : m ≤ 63) (h : okNs m (x :: xs) = true) : eqD μ (.tup (x :: xs)) (.tup []) = some false := by
  rw [eq_tnil (okNs_mono m 63 _ hm h)]; rfl
theorem isbl {d : D} (h : okN n d = true) : Bi.do .isi μ [d, .ty "bool"] = some (.bl (isBl d)) := by
  cases d <;> first | (simp [isBl]; done) | (cases n <;> simp [okN] at h)
theorem action_B {d : D} (h : okN n d = true) (hn : n ≤ 63) {nc ns : Int} {r : D} {w : Str} (hw : timeB w = true) : Fis_action [.tup [.int nc, .int ns, r], .str w, d] μ = some (.ok (.bl (actB nc ns w d)), μ) := by
  cases d with
  | ty _ => cases n <;> simp [okN] at h
  | glo _ => cases n <;> simp [okN] at h
  | obj _ => cases n <;> simp [okN] at h
  | scr _ => cases n <;> simp [okN] at h
  | tup ds =>
    obtain ⟨m, rfl, ho⟩ := ok_tup h
    match ds, ho with
    | [], _ => simp [Fis_action, B_is_action, go, actB, szL, eq_tnil (μ := μ) (xs := []) rfl]
    | x :: ds, ho =>
      have hne := tup_ne (μ := μ) (show m ≤ 63 by omega) ho
      have hox := okNs_mem ho x List.mem_cons_self
      have hs : ∀ z, x = .str z → Fis_action [.tup [.int nc, .int ns, r], .str w, .tup (x :: ds)] μ = some (.ok (.bl (actB nc ns w (.tup (x :: ds)))), μ) := by
        rintro z rfl
        have hz := okS hox
        have e1 := in_addless (μ := μ) hz
        have e2 := eq_str (μ := μ) hz (w := "clear") (by decide +kernel)
        have e3 := eq_str (μ := μ) hz (w := "set") (by decide +kernel)
        have e4 := eq_str (μ := μ) hz (w := "print") (by decide +kernel)
        cases c1 : (z == ("add" : Str) || z == ("less" : Str)) with
        | true =>
          rw [c1] at e1
          match ds, ho with
          | [a, b], ho =>
            have ha := src_B (μ := μ) (okNs_mem ho a (by simp)) (nc := nc) (ns := ns) (r := r) hw
            have hb := whole_B (μ := μ) (okNs_mem ho b (by simp)) (lo := 0) (hi := nc - 1)
            cases hq : srcB nc w a with
            | true =>
              rw [hq] at ha
              simp [Fis_action, B_is_action, go, szL, hne, e1, ha, hb, actB, c1, hq]
            | false =>
              rw [hq] at ha
              simp [Fis_action, B_is_action, go, szL, hne, e1, ha, actB, c1, hq]
          | [], ho => simp [Fis_action, B_is_action, go, szL, hne, e1, actB]
          | [a], ho =>
            have hcl : (z == ("clear" : Str)) = false ∧ (z == ("print" : Str)) = false := by
              simp at c1
              rcases c1 with rfl | rfl <;> exact ⟨by decide +kernel, by decide +kernel⟩
            simp [Fis_action, B_is_action, go, szL, hne, e1, actB, hcl.1, hcl.2]
          | a :: b :: c :: l, ho =>
            have : ¬ ((l.length : Int) + 1 + 1 + 1 + 1 = 3) := by omega
            simp [Fis_action, B_is_action, go, szL, hne, e1, actB, this]
        | false =>
          rw [c1] at e1
          cases c2 : (z == ("clear" : Str)) with
          | true =>
            rw [c2] at e2
            match ds, ho with
            | [a], ho =>
              have hb := whole_B (μ := μ) (okNs_mem ho a (by simp)) (lo := 0) (hi := nc - 1)
              simp [Fis_action, B_is_action, go, szL, hne, e1, e2, hb, actB, c2]
            | [], ho => simp [Fis_action, B_is_action, go, szL, hne, e1, e2, actB]
            | [a, b], ho =>
              have hst : (z == ("set" : Str)) = false := by
                simp at c2
                subst c2
                decide +kernel
              simp [Fis_action, B_is_action, go, szL, hne, e1, e2, actB, c1, hst]
            | a :: b :: c :: l, ho =>
              have : ¬ ((l.length : Int) + 1 + 1 + 1 + 1 = 2) := by omega
              simp [Fis_action, B_is_action, go, szL, hne, e1, e2, actB, this]
          | false =>
            rw [c2] at e2
            cases c3 : (z == ("set" : Str)) with
            | true =>
              rw [c3] at e3
              have hpr : (z == ("print" : Str)) = false := by
                simp at c3
                subst c3
                decide +kernel
              match ds, ho with
              | [a, b], ho =>
                have ha := whole_B (μ := μ) (okNs_mem ho a (by simp)) (lo := 0) (hi := ns - 1)
                have hbb := isbl (μ := μ) (okNs_mem ho b (by simp))
                cases hq : wholeB 0 (ns - 1) a with
                | true =>
                  rw [hq] at ha
                  simp [Fis_action, B_is_action, go, szL, hne, e1, e2, e3, ha, hbb, actB, c1, c3, hq]
                | false =>
                  rw [hq] at ha
                  simp [Fis_action, B_is_action, go, szL, hne, e1, e2, e3, ha, actB, c1, c3, hq]
              | [], ho => simp [Fis_action, B_is_action, go, szL, hne, e1, e2, e3, actB]
              | [a], ho => simp [Fis_action, B_is_action, go, szL, hne, e1, e2, e3, actB, c2, hpr]
              | a :: b :: c :: l, ho =>
                have : ¬ ((l.length : Int) + 1 + 1 + 1 + 1 = 3) := by omega
                simp [Fis_action, B_is_action, go, szL, hne, e1, e2, e3, actB, this]
            | false =>
              rw [c3] at e3
              cases c4 : (z == ("print" : Str)) with
              | true =>
                rw [c4] at e4
                match ds, ho with
                | [a], ho =>
                  have hp := printing_B (μ := μ) (okNs_mem ho a (by simp)) (by omega) (nc := nc) (ns := ns) (r := r) hw
                  simp [Fis_action, B_is_action, go, szL, hne, e1, e2, e3, e4, hp, actB, c2, c4]
                | [], ho => simp [Fis_action, B_is_action, go, szL, hne, e1, e2, e3, e4, actB]
                | [a, b], ho => simp [Fis_action, B_is_action, go, szL, hne, e1, e2, e3, e4, actB, c1, c3]
                | a :: b :: c :: l, ho =>
                  have : ¬ ((l.length : Int) + 1 + 1 + 1 + 1 = 2) := by omega
                  simp [Fis_action, B_is_action, go, szL, hne, e1, e2, e3, e4, actB, this]
              | false =>
                rw [c4] at e4
                match ds, ho with
                | [a], ho => simp [Fis_action, B_is_action, go, szL, hne, e1, e2, e3, e4, actB, c2, c4]
                | [], ho => simp [Fis_action, B_is_action, go, szL, hne, e1, e2, e3, e4, actB]
                | [a, b], ho => simp [Fis_action, B_is_action, go, szL, hne, e1, e2, e3, e4, actB, c1, c3]
                | a :: b :: c :: l, ho => simp [Fis_action, B_is_action, go, szL, hne, e1, e2, e3, e4, actB]
      cases x with
      | str z => exact hs z rfl
      | ty _ => cases m <;> simp [okN] at hox
      | glo _ => cases m <;> simp [okN] at hox
      | obj _ => cases m <;> simp [okN] at hox
      | scr _ => cases m <;> simp [okN] at hox
      | _ =>
        clear hs
        rcases ds with _ | ⟨a, _ | ⟨b, _ | ⟨c, l⟩⟩⟩ <;> simp [Fis_action, B_is_action, go, szL, hne, actB]
  | _ => simp [Fis_action, B_is_action, go, actB]
theorem word_B {d : D} (h : okN n d = true) : Fis_word [d, .tup [.str "card", .str "hole", .str "plain", .str "minor", .str "major"]] μ = some (.ok (.bl (match d with
    | .str w => timeB w
    | _ => false)), μ) := by
  cases d with
  | ty _ => cases n <;> simp [okN] at h
  | glo _ => cases n <;> simp [okN] at h
  | obj _ => cases n <;> simp [okN] at h
  | scr _ => cases n <;> simp [okN] at h
  | str z =>
    have := in_str (μ := μ) (okS h) (ws := ["card", "hole", "plain", "minor", "major"]) (by decide +kernel)
    simp at this
    simp [Fis_word, B_is_word, go, this, timeB, Bool.or_assoc]
  | _ => simp [Fis_word, B_is_word, go]
theorem wire_B {d : D} (h : okN n d = true) (hn : n ≤ 63) {nc ns : Int} {r : D} : Fis_wire [.tup [.int nc, .int ns, r], d] μ = some (.ok (.bl (wireB nc ns d)), μ) := by
  cases d with
  | ty _ => cases n <;> simp [okN] at h
  | glo _ => cases n <;> simp [okN] at h
  | obj _ => cases n <;> simp [okN] at h
  | scr _ => cases n <;> simp [okN] at h
  | tup ds =>
    obtain ⟨m, rfl, ho⟩ := ok_tup h
    match ds, ho with
    | [], _ => simp [Fis_wire, B_is_wire, go, wireB]
    | [x], _ => simp [Fis_wire, B_is_wire, go, wireB]
    | [x, y], _ => simp [Fis_wire, B_is_wire, go, wireB]
    | x :: y :: z :: u :: l, _ =>
      have : ¬ ((l.length : Int) + 1 + 1 + 1 + 1 = 3) := by omega
      simp [Fis_wire, B_is_wire, go, wireB, this]
    | [x, s, a], ho =>
      have hx := okNs_mem ho x (by simp)
      have hs := okNs_mem ho s (by simp)
      have ha := okNs_mem ho a (by simp)
      have hwd := word_B (μ := μ) hx
      cases x with
      | str w =>
        cases hw : timeB w with
        | false =>
          simp [hw] at hwd
          simp [Fis_wire, B_is_wire, go, wireB, hwd, hw]
        | true =>
          simp [hw] at hwd
          have hact := action_B (μ := μ) ha (by omega) (nc := nc) (ns := ns) (r := r) hw
          cases s with
          | ty _ => cases m <;> simp [okN] at hs
          | glo _ => cases m <;> simp [okN] at hs
          | obj _ => cases m <;> simp [okN] at hs
          | scr _ => cases m <;> simp [okN] at hs
          | non => simp [Fis_wire, B_is_wire, go, wireB, hwd, hw, swB, hact]
          | tup ss =>
            obtain ⟨m2, rfl, ho2⟩ := ok_tup hs
            match ss, ho2 with
            | [], _ => simp [Fis_wire, B_is_wire, go, wireB, hwd, swB]
            | [p], _ => simp [Fis_wire, B_is_wire, go, wireB, hwd, swB]
            | p :: q :: u :: l, _ =>
              have : ¬ ((l.length : Int) + 1 + 1 + 1 = 2) := by omega
              simp [Fis_wire, B_is_wire, go, wireB, hwd, swB, this]
            | [p, q], ho2 =>
              have hp := whole_B (μ := μ) (okNs_mem ho2 p (by simp)) (lo := 0) (hi := ns - 1)
              have hq := okNs_mem ho2 q (by simp)
              cases q with
              | bl b =>
                cases hpw : wholeB 0 (ns - 1) p with
                | true =>
                  rw [hpw] at hp
                  simp [Fis_wire, B_is_wire, go, wireB, hwd, swB, hp, hpw, hact, hw]
                | false =>
                  rw [hpw] at hp
                  simp [Fis_wire, B_is_wire, go, wireB, hwd, swB, hp, hpw]
              | ty _ => cases m2 <;> simp [okN] at hq
              | glo _ => cases m2 <;> simp [okN] at hq
              | obj _ => cases m2 <;> simp [okN] at hq
              | scr _ => cases m2 <;> simp [okN] at hq
              | _ => simp [Fis_wire, B_is_wire, go, wireB, hwd, swB]
          | _ => simp [Fis_wire, B_is_wire, go, wireB, hwd, swB]
      | ty _ => cases m <;> simp [okN] at hx
      | glo _ => cases m <;> simp [okN] at hx
      | obj _ => cases m <;> simp [okN] at hx
      | scr _ => cases m <;> simp [okN] at hx
      | _ => simp at hwd; simp [Fis_wire, B_is_wire, go, wireB, hwd]
  | _ => simp [Fis_wire, B_is_wire, go, wireB]
end
end Kv
set_option Elab.async false
set_option linter.all false
set_option maxRecDepth 100000
set_option maxHeartbeats 4000000
/-! Kvc: any values: boards, rows, cards, decks, patterns by the program. -/
namespace Kv
open PySem L2 Mi Pg Ev Dr Mm
section
variable {μ : List Mo} {n : Nat}
theorem whole_int {d : D} {lo hi : Int} (h : wholeB lo hi d = true) : ∃ i, d = .int i ∧ lo ≤ i ∧ i ≤ hi := by
  cases d with
  | int i => simp [wholeB] at h; exact ⟨i, rfl, h.1, h.2⟩
  | _ => simp [wholeB] at h
theorem board_B {d : D} (h : okN n d = true) (hn : n ≤ 63) (hl : ∀ a b ws, d = .tup [a, b, .tup ws] → ws.length ≤ 1000000) : Fis_board [d] μ = some (.ok (.bl (boardB d)), μ) := by
  cases d with
  | ty _ => cases n <;> simp [okN] at h
  | glo _ => cases n <;> simp [okN] at h
  | obj _ => cases n <;> simp [okN] at h
  | scr _ => cases n <;> simp [okN] at h
  | tup ds =>
    obtain ⟨m, rfl, ho⟩ := ok_tup h
    match ds, ho with
    | [], _ => simp [Fis_board, B_is_board, go, boardB]
    | [x], _ => simp [Fis_board, B_is_board, go, boardB]
    | [x, y], _ => simp [Fis_board, B_is_board, go, boardB]
    | x :: y :: z :: u :: l, _ =>
      have : ¬ ((l.length : Int) + 1 + 1 + 1 + 1 = 3) := by omega
      simp [Fis_board, B_is_board, go, boardB, this]
    | [x, y, z], ho =>
      have hx := okNs_mem ho x (by simp)
      have hy := okNs_mem ho y (by simp)
      have hz := okNs_mem ho z (by simp)
      have ex := whole_B (μ := μ) hx (lo := 0) (hi := 3)
      have ey := whole_B (μ := μ) hy (lo := 0) (hi := 2)
      cases bx : wholeB 0 3 x with
      | false =>
        rw [bx] at ex
        have hb : boardB (.tup [x, y, z]) = false := by
          unfold boardB
          split
          · rename_i a b c e
            simp at e
            obtain ⟨rfl, _⟩ := e
            simp [bx]
          · rfl
        simp [Fis_board, B_is_board, go, ex, hb]
      | true =>
        rw [bx] at ex
        obtain ⟨nc, rfl, _⟩ := whole_int bx
        cases bY : wholeB 0 2 y with
        | false =>
          rw [bY] at ey
          have hb : boardB (.tup [.int nc, y, z]) = false := by
            unfold boardB
            split
            · rename_i a b c e
              simp at e
              obtain ⟨rfl, rfl, _⟩ := e
              simp [bY]
            · rfl
          simp [Fis_board, B_is_board, go, ex, ey, hb]
        | true =>
          rw [bY] at ey
          obtain ⟨ns, rfl, _⟩ := whole_int bY
          cases z with
          | ty _ => cases m <;> simp [okN] at hz
          | glo _ => cases m <;> simp [okN] at hz
          | obj _ => cases m <;> simp [okN] at hz
          | scr _ => cases m <;> simp [okN] at hz
          | tup ws =>
            obtain ⟨m2, rfl, ho2⟩ := ok_tup hz
            by_cases h8 : ws.length ≤ 8
            · have k8 : ¬ (8 : Int) < ws.length := by omega
              have e := comp_bad (μ := μ) (xs := ws) (p := wireB nc ns) (i := 1) (δ := [.d (.tup [.int nc, .int ns, .tup ws]), .un]) (c := .call Fis_wire (.cons (.var 0) (.cons (.var 1) .nil))) (by omega) (by simp) (fun x hx => by
                simp [wire_B (μ := μ) (okNs_mem ho2 x hx) (by omega)])
              have e2 := eq_bad (μ := μ) (p := wireB nc ns) (show m2 ≤ 63 by omega) ho2
              simp [Fis_board, B_is_board, go, ex, ey, k8, kcomp, wipeS, e, szL, e2, boardB, bx, bY, h8]
            · have k8 : (8 : Int) < ws.length := by omega
              simp [Fis_board, B_is_board, go, ex, ey, k8, boardB, h8]
          | _ => simp [Fis_board, B_is_board, go, ex, ey, boardB]
  | _ => simp [Fis_board, B_is_board, go, boardB]
/-- no list or tuple in a value is long -/
def szN : Nat → D → Bool
  | n + 1, .tup xs => decide (xs.length ≤ 100000) && xs.all (szN n)
  | n + 1, .lst xs => decide (xs.length ≤ 100000) && xs.all (szN n)
  | 0, .tup _ => false
  | 0, .lst _ => false
  | _, _ => true
theorem sz_board {d : D} {k : Nat} (h : szN k d = true) : ∀ a b ws, d = .tup [a, b, .tup ws] → ws.length ≤ 1000000 := by
  rintro a b ws rfl
  cases k with
  | zero => simp [szN] at h
  | succ k =>
    cases k with
    | zero => simp [szN] at h
    | succ k =>
      simp [szN] at h
      omega
end
end Kv
set_option Elab.async false
set_option linter.all false
set_option maxRecDepth 100000
set_option maxHeartbeats 4000000
/-! Kvd: any values: what the law's checks say of them. -/
namespace Kv
open PySem L2 Mi Pg Ev Dr Mm
section
variable {μ : List Mo} {n : Nat}
theorem lwhole_B {d : D} (h : okN n d = true) {lo hi : Int} : F_law_is_whole [d, .int lo, .int hi] μ = some (.ok (.bl (wholeB lo hi d)), μ) := by
  cases d with
  | int i =>
    by_cases h1 : lo ≤ i
    · simp [F_law_is_whole, B__law_is_whole, go, wholeB, h1]
    · simp [F_law_is_whole, B__law_is_whole, go, wholeB, h1]
  | ty _ => cases n <;> simp [okN] at h
  | glo _ => cases n <;> simp [okN] at h
  | obj _ => cases n <;> simp [okN] at h
  | scr _ => cases n <;> simp [okN] at h
  | _ => simp [F_law_is_whole, B__law_is_whole, go, wholeB]
theorem lfrom_B {d : D} (h : okN n d = true) {nc ns : Int} {w : Str} (hw : timeB w = true) : F_law_is_from [.tup [.int nc, .int ns], .str w, d] μ = some (.ok (.bl (srcB nc w d)), μ) := by
  have hwk : inD μ (.str w) (.lst [.str "card", .str "hole", .str "plain"]) = some (cardyB w) := by
    have hc : w = "card" ∨ w = "hole" ∨ w = "plain" ∨ w = "minor" ∨ w = "major" := by
      simp [timeB] at hw
      rcases hw with (((h | h) | h) | h) | h <;> simp [h]
    rcases hc with rfl | rfl | rfl | rfl | rfl <;> kernel_rfl
  have other : ∀ d : D, okN n d = true → (∀ z, d ≠ .str z) → Bi.do .isi μ [d, .ty "str"] = some (.bl false) → F_law_is_from [.tup [.int nc, .int ns], .str w, d] μ = some (.ok (.bl (wholeB 0 (nc - 1) d)), μ) := by
    intro d hd hn hi
    have := lwhole_B (μ := μ) hd (lo := 0) (hi := nc - 1)
    simp [F_law_is_from, B__law_is_from, go, hi, this]
  cases d with
  | str z =>
    have h1 := in_strl (μ := μ) (okS h) (ws := ["x", "y"]) (by decide +kernel)
    simp at h1
    cases hx : (z == ("x" : Str) || z == ("y" : Str)) with
    | true =>
      simp at hx
      have h2 : inD μ (.str z) (.lst [.str "x", .str "y"]) = some true := by rw [h1]; simp [hx]
      simp [F_law_is_from, B__law_is_from, go, szL, h2, hwk, srcB, hx]
    | false =>
      simp at hx
      have h2 : inD μ (.str z) (.lst [.str "x", .str "y"]) = some false := by rw [h1]; simp [hx]
      simp [F_law_is_from, B__law_is_from, go, szL, h2, srcB, hx]
  | ty _ => cases n <;> simp [okN] at h
  | glo _ => cases n <;> simp [okN] at h
  | obj _ => cases n <;> simp [okN] at h
  | scr _ => cases n <;> simp [okN] at h
  | non => exact other _ h (by simp) (by simp)
  | bl _ => exact other _ h (by simp) (by simp)
  | int _ => exact other _ h (by simp) (by simp)
  | tup _ => exact other _ h (by simp) (by simp)
  | lst _ => exact other _ h (by simp) (by simp)
theorem in_23 (i : Int) : inD μ (.int i) (.tup [.int 2, .int 3]) = some (decide (i = 2) || decide (i = 3)) := by
  rw [inD_t (ok_int 64 i) rfl]
  simp only [List.any_cons, List.any_nil, Bool.or_false, eqb]
  congr 1
  by_cases a : i = 2
  · subst a; rfl
  · by_cases b : i = 3
    · subst b; rfl
    · simp [a, b]; exact ⟨fun e => a e.symm, fun e => b e.symm⟩
theorem lact_B {d : D} (h : okN n d = true) (hn : n ≤ 63) {nc ns : Int} {w : Str} (hw : timeB w = true) : F_law_is_act [.tup [.int nc, .int ns], .str w, d] μ = some (.ok (.bl (actB nc ns w d)), μ) := by
  cases d with
  | ty _ => cases n <;> simp [okN] at h
  | glo _ => cases n <;> simp [okN] at h
  | obj _ => cases n <;> simp [okN] at h
  | scr _ => cases n <;> simp [okN] at h
  | tup ds =>
    obtain ⟨m, rfl, ho⟩ := ok_tup h
    match ds, ho with
    | [], _ => simp [F_law_is_act, B__law_is_act, go, actB, szL, in_23]
    | [x], _ => simp [F_law_is_act, B__law_is_act, go, actB, szL, in_23]
    | x :: y :: z :: u :: l, _ =>
      have h1 : ¬ ((l.length : Int) + 1 + 1 + 1 + 1 = 2) := by omega
      have h2 : ¬ ((l.length : Int) + 1 + 1 + 1 + 1 = 3) := by omega
      simp [F_law_is_act, B__law_is_act, go, actB, szL, in_23, h1, h2]
    | [x, a], ho =>
      have hox := okNs_mem ho x (by simp)
      have hoa := okNs_mem ho a (by simp)
      cases x with
      | str z =>
        have hz := okS hox
        have e2 := eq_str (μ := μ) hz (w := "clear") (by decide +kernel)
        have e4 := eq_str (μ := μ) hz (w := "print") (by decide +kernel)
        have ew := lwhole_B (μ := μ) hoa (lo := 0) (hi := nc - 1)
        cases c2 : (z == ("clear" : Str)) with
        | true =>
          rw [c2] at e2
          simp [F_law_is_act, B__law_is_act, go, actB, szL, in_23, e2, c2, ew]
        | false =>
          rw [c2] at e2
          cases c4 : (z == ("print" : Str)) with
          | false =>
            rw [c4] at e4
            simp [F_law_is_act, B__law_is_act, go, actB, szL, in_23, e2, c2, e4, c4]
          | true =>
            rw [c4] at e4
            cases a with
            | ty _ => cases m <;> simp [okN] at hoa
            | glo _ => cases m <;> simp [okN] at hoa
            | obj _ => cases m <;> simp [okN] at hoa
            | scr _ => cases m <;> simp [okN] at hoa
            | tup its =>
              obtain ⟨m2, rfl, ho2⟩ := ok_tup hoa
              by_cases h1 : 1 ≤ its.length
              · by_cases h3 : its.length ≤ 3
                · have k1 : (1 : Int) ≤ its.length := by omega
                  have k3 : (its.length : Int) ≤ 3 := by omega
                  have e := comp_bad (μ := μ) (xs := its) (p := srcB nc w) (i := 3) (δ := [.d (.tup [.int nc, .int ns]), .d (.str w), .d (.tup [.str z, .tup its]), .un]) (c := .call F_law_is_from (.cons (.var 0) (.cons (.var 1) (.cons (.var 3) .nil)))) (by omega) (by simp) (fun x hx => by
                    simp [lfrom_B (μ := μ) (okNs_mem ho2 x hx) hw])
                  have e5 := eq_bad (μ := μ) (p := srcB nc w) (show m2 ≤ 63 by omega) ho2
                  simp [F_law_is_act, B__law_is_act, go, actB, szL, in_23, e2, c2, e4, c4, k1, k3, kcomp, wipeS, e, e5, printB, h1, h3]
                · have k1 : (1 : Int) ≤ its.length := by omega
                  have k3 : ¬ (its.length : Int) ≤ 3 := by omega
                  simp [F_law_is_act, B__law_is_act, go, actB, szL, in_23, e2, c2, e4, c4, k1, k3, printB, h3]
              · have k1 : ¬ (1 : Int) ≤ its.length := by omega
                simp [F_law_is_act, B__law_is_act, go, actB, szL, in_23, e2, c2, e4, c4, k1, printB, h1]
            | _ => simp [F_law_is_act, B__law_is_act, go, actB, szL, in_23, e2, c2, e4, c4, printB]
      | ty _ => cases m <;> simp [okN] at hox
      | glo _ => cases m <;> simp [okN] at hox
      | obj _ => cases m <;> simp [okN] at hox
      | scr _ => cases m <;> simp [okN] at hox
      | _ => simp [F_law_is_act, B__law_is_act, go, actB, szL, in_23]
    | [x, a, b], ho =>
      have hox := okNs_mem ho x (by simp)
      have hoa := okNs_mem ho a (by simp)
      have hob := okNs_mem ho b (by simp)
      cases x with
      | str z =>
        have hz := okS hox
        have e1 := in_addless (μ := μ) hz
        have e3 := eq_str (μ := μ) hz (w := "set") (by decide +kernel)
        have ea := lwhole_B (μ := μ) hoa (lo := 0) (hi := ns - 1)
        have eb := lwhole_B (μ := μ) hob (lo := 0) (hi := nc - 1)
        have es := lfrom_B (μ := μ) hoa (nc := nc) (ns := ns) hw
        have hbb := isbl (μ := μ) hob
        cases c3 : (z == ("set" : Str)) with
        | true =>
          rw [c3] at e3
          have c1 : (z == ("add" : Str) || z == ("less" : Str)) = false := by
            simp at c3
            subst c3
            decide +kernel
          cases hq : wholeB 0 (ns - 1) a with
          | true =>
            rw [hq] at ea
            simp [F_law_is_act, B__law_is_act, go, actB, szL, in_23, e3, c3, c1, ea, hq, hbb]
          | false =>
            rw [hq] at ea
            simp [F_law_is_act, B__law_is_act, go, actB, szL, in_23, e3, c3, c1, ea, hq]
        | false =>
          rw [c3] at e3
          cases c1 : (z == ("add" : Str) || z == ("less" : Str)) with
          | true =>
            rw [c1] at e1
            cases hq : srcB nc w a with
            | true =>
              rw [hq] at es
              simp [F_law_is_act, B__law_is_act, go, actB, szL, in_23, e3, c1, e1, es, hq, eb]
            | false =>
              rw [hq] at es
              simp [F_law_is_act, B__law_is_act, go, actB, szL, in_23, e3, c1, e1, es, hq]
          | false =>
            rw [c1] at e1
            simp [F_law_is_act, B__law_is_act, go, actB, szL, in_23, e3, c3, c1, e1]
      | ty _ => cases m <;> simp [okN] at hox
      | glo _ => cases m <;> simp [okN] at hox
      | obj _ => cases m <;> simp [okN] at hox
      | scr _ => cases m <;> simp [okN] at hox
      | _ => simp [F_law_is_act, B__law_is_act, go, actB, szL, in_23]
  | _ => simp [F_law_is_act, B__law_is_act, go, actB]
theorem lone_B {d : D} (h : okN n d = true) : F_law_is_one_of [d, .lst [.str "card", .str "hole", .str "plain", .str "minor", .str "major"]] μ = some (.ok (.bl (match d with
    | .str w => timeB w
    | _ => false)), μ) := by
  cases d with
  | ty _ => cases n <;> simp [okN] at h
  | glo _ => cases n <;> simp [okN] at h
  | obj _ => cases n <;> simp [okN] at h
  | scr _ => cases n <;> simp [okN] at h
  | str z =>
    have := in_strl (μ := μ) (okS h) (ws := ["card", "hole", "plain", "minor", "major"]) (by decide +kernel)
    simp at this
    simp [F_law_is_one_of, B__law_is_one_of, go, this, timeB, Bool.or_assoc]
  | _ => simp [F_law_is_one_of, B__law_is_one_of, go]
theorem lwire_B {d : D} (h : okN n d = true) (hn : n ≤ 63) {nc ns : Int} : F_law_is_wire [.tup [.int nc, .int ns], d] μ = some (.ok (.bl (wireB nc ns d)), μ) := by
  cases d with
  | ty _ => cases n <;> simp [okN] at h
  | glo _ => cases n <;> simp [okN] at h
  | obj _ => cases n <;> simp [okN] at h
  | scr _ => cases n <;> simp [okN] at h
  | tup ds =>
    obtain ⟨m, rfl, ho⟩ := ok_tup h
    match ds, ho with
    | [], _ => simp [F_law_is_wire, B__law_is_wire, go, wireB]
    | [x], _ => simp [F_law_is_wire, B__law_is_wire, go, wireB]
    | [x, y], _ => simp [F_law_is_wire, B__law_is_wire, go, wireB]
    | x :: y :: z :: u :: l, _ =>
      have : ¬ ((l.length : Int) + 1 + 1 + 1 + 1 = 3) := by omega
      simp [F_law_is_wire, B__law_is_wire, go, wireB, this]
    | [x, s, a], ho =>
      have hx := okNs_mem ho x (by simp)
      have hs := okNs_mem ho s (by simp)
      have ha := okNs_mem ho a (by simp)
      have hwd := lone_B (μ := μ) hx
      cases x with
      | str w =>
        cases hw : timeB w with
        | false =>
          simp [hw] at hwd
          simp [F_law_is_wire, B__law_is_wire, go, wireB, szL, hwd, hw]
        | true =>
          simp [hw] at hwd
          have hact := lact_B (μ := μ) ha (by omega) (nc := nc) (ns := ns) hw
          cases s with
          | ty _ => cases m <;> simp [okN] at hs
          | glo _ => cases m <;> simp [okN] at hs
          | obj _ => cases m <;> simp [okN] at hs
          | scr _ => cases m <;> simp [okN] at hs
          | non => simp [F_law_is_wire, B__law_is_wire, go, wireB, szL, hwd, hw, swB, hact]
          | tup ss =>
            obtain ⟨m2, rfl, ho2⟩ := ok_tup hs
            match ss, ho2 with
            | [], _ => simp [F_law_is_wire, B__law_is_wire, go, wireB, szL, hwd, swB]
            | [p], _ => simp [F_law_is_wire, B__law_is_wire, go, wireB, szL, hwd, swB]
            | p :: q :: u :: l, _ =>
              have : ¬ ((l.length : Int) + 1 + 1 + 1 = 2) := by omega
              simp [F_law_is_wire, B__law_is_wire, go, wireB, szL, hwd, swB, this]
            | [p, q], ho2 =>
              have hp := lwhole_B (μ := μ) (okNs_mem ho2 p (by simp)) (lo := 0) (hi := ns - 1)
              have hq := okNs_mem ho2 q (by simp)
              cases q with
              | bl b =>
                cases hpw : wholeB 0 (ns - 1) p with
                | true =>
                  rw [hpw] at hp
                  simp [F_law_is_wire, B__law_is_wire, go, wireB, szL, hwd, swB, hp, hpw, hact, hw]
                | false =>
                  rw [hpw] at hp
                  simp [F_law_is_wire, B__law_is_wire, go, wireB, szL, hwd, swB, hp, hpw]
              | ty _ => cases m2 <;> simp [okN] at hq
              | glo _ => cases m2 <;> simp [okN] at hq
              | obj _ => cases m2 <;> simp [okN] at hq
              | scr _ => cases m2 <;> simp [okN] at hq
              | _ => simp [F_law_is_wire, B__law_is_wire, go, wireB, szL, hwd, swB]
          | _ => simp [F_law_is_wire, B__law_is_wire, go, wireB, szL, hwd, swB]
      | ty _ => cases m <;> simp [okN] at hx
      | glo _ => cases m <;> simp [okN] at hx
      | obj _ => cases m <;> simp [okN] at hx
      | scr _ => cases m <;> simp [okN] at hx
      | _ => simp at hwd; simp [F_law_is_wire, B__law_is_wire, go, wireB, szL, hwd]
  | _ => simp [F_law_is_wire, B__law_is_wire, go, wireB]
theorem lboard_B {d : D} (h : okN n d = true) (hn : n ≤ 63) (hl : ∀ a b ws, d = .tup [a, b, .tup ws] → ws.length ≤ 1000000) : F_law_is_board [d] μ = some (.ok (.bl (boardB d)), μ) := by
  cases d with
  | ty _ => cases n <;> simp [okN] at h
  | glo _ => cases n <;> simp [okN] at h
  | obj _ => cases n <;> simp [okN] at h
  | scr _ => cases n <;> simp [okN] at h
  | tup ds =>
    obtain ⟨m, rfl, ho⟩ := ok_tup h
    match ds, ho with
    | [], _ => simp [F_law_is_board, B__law_is_board, go, boardB]
    | [x], _ => simp [F_law_is_board, B__law_is_board, go, boardB]
    | [x, y], _ => simp [F_law_is_board, B__law_is_board, go, boardB]
    | x :: y :: z :: u :: l, _ =>
      have : ¬ ((l.length : Int) + 1 + 1 + 1 + 1 = 3) := by omega
      simp [F_law_is_board, B__law_is_board, go, boardB, this]
    | [x, y, z], ho =>
      have hx := okNs_mem ho x (by simp)
      have hy := okNs_mem ho y (by simp)
      have hz := okNs_mem ho z (by simp)
      have ex := lwhole_B (μ := μ) hx (lo := 0) (hi := 3)
      have ey := lwhole_B (μ := μ) hy (lo := 0) (hi := 2)
      cases bx : wholeB 0 3 x with
      | false =>
        rw [bx] at ex
        have hb : boardB (.tup [x, y, z]) = false := by
          unfold boardB
          split
          · rename_i a b c e
            simp at e
            obtain ⟨rfl, _⟩ := e
            simp [bx]
          · rfl
        simp [F_law_is_board, B__law_is_board, go, ex, hb]
      | true =>
        rw [bx] at ex
        obtain ⟨nc, rfl, _⟩ := whole_int bx
        cases bY : wholeB 0 2 y with
        | false =>
          rw [bY] at ey
          have hb : boardB (.tup [.int nc, y, z]) = false := by
            unfold boardB
            split
            · rename_i a b c e
              simp at e
              obtain ⟨rfl, rfl, _⟩ := e
              simp [bY]
            · rfl
          simp [F_law_is_board, B__law_is_board, go, ex, ey, hb]
        | true =>
          rw [bY] at ey
          obtain ⟨ns, rfl, _⟩ := whole_int bY
          cases z with
          | ty _ => cases m <;> simp [okN] at hz
          | glo _ => cases m <;> simp [okN] at hz
          | obj _ => cases m <;> simp [okN] at hz
          | scr _ => cases m <;> simp [okN] at hz
          | tup ws =>
            obtain ⟨m2, rfl, ho2⟩ := ok_tup hz
            by_cases h8 : ws.length ≤ 8
            · have k8 : ¬ (8 : Int) < ws.length := by omega
              have e := comp_bad (μ := μ) (xs := ws) (p := wireB nc ns) (i := 1) (δ := [.d (.tup [.int nc, .int ns, .tup ws]), .un]) (c := .call F_law_is_wire (.cons (.slc (.var 0) .no (.yes (.con (.int (2))))) (.cons (.var 1) .nil))) (by omega) (by simp) (fun x hx => by
                simp [cut2, lwire_B (μ := μ) (okNs_mem ho2 x hx) (by omega)])
              have e2 := eq_bad (μ := μ) (p := wireB nc ns) (show m2 ≤ 63 by omega) ho2
              simp [F_law_is_board, B__law_is_board, go, ex, ey, k8, kcomp, wipeS, e, szL, e2, boardB, bx, bY, h8]
            · have k8 : (8 : Int) < ws.length := by omega
              simp [F_law_is_board, B__law_is_board, go, ex, ey, k8, boardB, h8]
          | _ => simp [F_law_is_board, B__law_is_board, go, ex, ey, boardB]
  | _ => simp [F_law_is_board, B__law_is_board, go, boardB]
end
end Kv
set_option Elab.async false
set_option linter.all false
set_option maxRecDepth 100000
set_option maxHeartbeats 4000000
/-! Kve: any values: rows, cards, decks, patterns by the law; the pattern of a deck. -/
namespace Kv
open PySem L2 Mi Pg Ev Dr Mm
section
variable {μ : List Mo} {n : Nat}
theorem pow30 : Op.do .pow μ (.int 10) (.int 30) = some (.int 1000000000000000000000000000000) := by kernel_rfl
end
end Kv
set_option Elab.async false
set_option linter.all false
set_option maxRecDepth 100000
set_option maxHeartbeats 4000000
/-! Kvf: any values drawn; values bent. -/
namespace Kv
open PySem L2 Mi Pg Ev Dr Mm
/-- plain values: at most n deep, sizes by s -/
def vN : Nat → Nat → D → Bool
  | _, _, .non => true
  | _, _, .bl _ => true
  | _, s, .int i => decide (i.natAbs < 10 ^ s)
  | _, s, .str z => z.cps.toList.all (fun c => decide (c < 128)) && decide (z.length ≤ s)
  | n + 1, s, .tup xs => decide (xs.length ≤ s) && xs.all (vN n s)
  | n + 1, s, .lst xs => decide (xs.length ≤ s) && xs.all (vN n s)
  | _, _, _ => false
theorem asc_ok {z : Str} (h : z.cps.toList.all (fun c => decide (c < 128)) = true) : PyData.strOk z = true := by
  rw [sok]
  intro c hc
  have := of_decide_eq_true (List.all_eq_true.mp h c hc)
  omega
theorem vN_ok : ∀ (n s : Nat) (d : D), vN n s d = true → okN n d = true
  | _, _, .non, _ => ok_non _
  | _, _, .bl _, _ => ok_bl _ _
  | _, _, .int _, _ => ok_int _ _
  | n, s, .str z, h => by
    have h : (z.cps.toList.all (fun c => decide (c < 128)) && decide (z.length ≤ s)) = true := by cases n <;> simpa [vN] using h
    rw [Bool.and_eq_true] at h
    exact ok_str _ _ (asc_ok h.1)
  | n + 1, s, .tup xs, h => by
    simp only [vN, Bool.and_eq_true] at h
    simp only [okN]
    exact okNs_all fun x hx => vN_ok n s x (List.all_eq_true.mp h.2 x hx)
  | n + 1, s, .lst xs, h => by
    simp only [vN, Bool.and_eq_true] at h
    simp only [okN]
    exact okNs_all fun x hx => vN_ok n s x (List.all_eq_true.mp h.2 x hx)
  | 0, _, .tup _, h => by simp [vN] at h
  | 0, _, .lst _, h => by simp [vN] at h
  | n, _, .ty _, h => by cases n <;> simp [vN] at h
  | n, _, .glo _, h => by cases n <;> simp [vN] at h
  | n, _, .obj _, h => by cases n <;> simp [vN] at h
  | n, _, .scr _, h => by cases n <;> simp [vN] at h
theorem vN_sz : ∀ (n s : Nat) (d : D), s ≤ 100000 → vN n s d = true → szN n d = true
  | n, _, .non, _, _ => by cases n <;> rfl
  | n, _, .bl _, _, _ => by cases n <;> rfl
  | n, _, .int _, _, _ => by cases n <;> rfl
  | n, _, .str _, _, _ => by cases n <;> rfl
  | n + 1, s, .tup xs, hs, h => by
    simp only [vN, Bool.and_eq_true, decide_eq_true_eq] at h
    simp only [szN, Bool.and_eq_true, decide_eq_true_eq]
    exact ⟨by omega, List.all_eq_true.mpr fun x hx => vN_sz n s x hs (List.all_eq_true.mp h.2 x hx)⟩
  | n + 1, s, .lst xs, hs, h => by
    simp only [vN, Bool.and_eq_true, decide_eq_true_eq] at h
    simp only [szN, Bool.and_eq_true, decide_eq_true_eq]
    exact ⟨by omega, List.all_eq_true.mpr fun x hx => vN_sz n s x hs (List.all_eq_true.mp h.2 x hx)⟩
  | 0, _, .tup _, _, h => by simp [vN] at h
  | 0, _, .lst _, _, h => by simp [vN] at h
  | n, _, .ty _, _, h => by cases n <;> simp [vN] at h
  | n, _, .glo _, _, h => by cases n <;> simp [vN] at h
  | n, _, .obj _, _, h => by cases n <;> simp [vN] at h
  | n, _, .scr _, _, h => by cases n <;> simp [vN] at h
theorem vN_mono : ∀ (n m s t : Nat) (d : D), n ≤ m → s ≤ t → vN n s d = true → vN m t d = true
  | _, m, _, _, .non, _, _, _ => by cases m <;> rfl
  | _, m, _, _, .bl _, _, _, _ => by cases m <;> rfl
  | n, m, s, t, .int i, _, hs, h => by
    have h : i.natAbs < 10 ^ s := by cases n <;> simpa [vN] using h
    have : 10 ^ s ≤ 10 ^ t := Nat.pow_le_pow_right (by decide) hs
    have h2 : i.natAbs < 10 ^ t := by omega
    cases m <;> simpa [vN] using h2
  | n, m, s, t, .str z, _, hs, h => by
    have h : z.cps.toList.all (fun c => decide (c < 128)) = true ∧ z.length ≤ s := by
      have : (z.cps.toList.all (fun c => decide (c < 128)) && decide (z.length ≤ s)) = true := by cases n <;> simpa [vN] using h
      rw [Bool.and_eq_true] at this
      exact ⟨this.1, of_decide_eq_true this.2⟩
    have : (z.cps.toList.all (fun c => decide (c < 128)) && decide (z.length ≤ t)) = true := by
      rw [h.1, Bool.true_and]; exact decide_eq_true (by omega)
    cases m <;> simpa [vN] using this
  | n + 1, m + 1, s, t, .tup xs, hm, hs, h => by
    simp only [vN, Bool.and_eq_true, decide_eq_true_eq] at h ⊢
    exact ⟨by omega, List.all_eq_true.mpr fun x hx => vN_mono n m s t x (by omega) hs (List.all_eq_true.mp h.2 x hx)⟩
  | n + 1, m + 1, s, t, .lst xs, hm, hs, h => by
    simp only [vN, Bool.and_eq_true, decide_eq_true_eq] at h ⊢
    exact ⟨by omega, List.all_eq_true.mpr fun x hx => vN_mono n m s t x (by omega) hs (List.all_eq_true.mp h.2 x hx)⟩
  | n + 1, 0, _, _, .tup _, hm, _, _ => by omega
  | n + 1, 0, _, _, .lst _, hm, _, _ => by omega
  | 0, _, _, _, .tup _, _, _, h => by simp [vN] at h
  | 0, _, _, _, .lst _, _, _, h => by simp [vN] at h
  | n, _, _, _, .ty _, _, _, h => by cases n <;> simp [vN] at h
  | n, _, _, _, .glo _, _, _, h => by cases n <;> simp [vN] at h
  | n, _, _, _, .obj _, _, _, h => by cases n <;> simp [vN] at h
  | n, _, _, _, .scr _, _, _, h => by cases n <;> simp [vN] at h
theorem vN_tup {n s : Nat} {xs : List D} (h : vN n s (.tup xs) = true) : ∃ m, n = m + 1 ∧ xs.length ≤ s ∧ ∀ x ∈ xs, vN m s x = true := by
  cases n with
  | zero => simp [vN] at h
  | succ m =>
    simp only [vN, Bool.and_eq_true, decide_eq_true_eq] at h
    exact ⟨m, rfl, h.1, fun x hx => List.all_eq_true.mp h.2 x hx⟩
theorem vN_mk {m s : Nat} {xs : List D} (hl : xs.length ≤ s) (h : ∀ x ∈ xs, vN m s x = true) : vN (m + 1) s (.tup xs) = true := by
  simp only [vN, Bool.and_eq_true, decide_eq_true_eq]
  exact ⟨hl, List.all_eq_true.mpr h⟩
theorem vN_mkl {m s : Nat} {xs : List D} (hl : xs.length ≤ s) (h : ∀ x ∈ xs, vN m s x = true) : vN (m + 1) s (.lst xs) = true := by
  simp only [vN, Bool.and_eq_true, decide_eq_true_eq]
  exact ⟨hl, List.all_eq_true.mpr h⟩
/-! ### odd values -/
def oddL : List D := [.non, .bl true, .bl false, .int 0, .int 1, .int 2, .int 3, .int (-1), .int 10000000000000000000000000000000, .str "", .str "x", .str "y", .str "card", .str "minor", .str "print", .str "set", .tup [], .lst [],
  .tup [.int 0, .bl true], .tup [.str "print", .tup [.str "x"]], .tup [.str "add", .str "x", .int 0], .tup [.str "none", .bl true], .tup [.int 1, .int 1, .bl true, .int 2, .int 3], .tup [.int 0, .int 0, .tup []]]
theorem oddL_ok : ∀ d ∈ oddL, vN 2 45 d = true := by decide +kernel
section
variable {k : Nat} {μ : List Mo}
theorem pow31 : Op.do .pow μ (.int 10) (.int 31) = some (.int 10000000000000000000000000000000) := by kernel_rfl
theorem odd_base {F : Sem} (v : Vat μ k) {dep : Nat} (rest : ∀ μ1, Vat μ1 k → dep ≠ 0 → Gives k μ1 (fun r => vN (dep + 2) 45 r = true) (fin (exs (dropS 3 (B__law_odd F)) [.d (.obj k), .d (.int dep), .d (.lst oddL), .un, .un] μ1))) : Gives k μ (fun r => vN (dep + 2) 45 r = true) (run 2 5 (B__law_odd F) [.obj k, .int dep] μ) := by
  have done : ∀ μ1, Vat μ1 k → ∃ d μ2, F_law_some [.obj k, .lst oddL] μ1 = some (.ok d, μ2) ∧ Dn k μ1 μ2 ∧ vN (dep + 2) 45 d = true := by
    intro μ1 v1
    obtain ⟨d, hd, μ2, e, dn⟩ := some_spec (xs := oddL) v1 (by simp [oddL]) (by simp [oddL])
    exact ⟨d, μ2, e, dn, vN_mono 2 (dep + 2) 45 45 d (by omega) (Nat.le_refl _) (oddL_ok d hd)⟩
  by_cases h0 : dep = 0
  · subst h0
    obtain ⟨d, μ2, e, dn, q⟩ := done μ v
    refine ⟨d, μ2, ?_, dn, q⟩
    simp only [oddL] at e
    simp [B__law_odd, go, szL, pow31, e]
  · have hd0 : ¬ ((dep : Int) = 0) := by omega
    obtain ⟨q, μ1, e1, d1, q0, q1⟩ := under_spec (m := 9) v (by decide) (by decide)
    by_cases h6 : q < 6
    · obtain ⟨d, μ2, e, dn, q⟩ := done μ1 d1.vat
      refine ⟨d, μ2, ?_, d1.trans dn, q⟩
      simp only [oddL] at e
      simp [B__law_odd, go, szL, pow31, hd0, h0, e1, h6, e]
    · refine Gives.of ?_ d1
      have := rest μ1 d1.vat h0
      have e : run 2 5 (B__law_odd F) [.obj k, .int dep] μ = fin (exs (dropS 3 (B__law_odd F)) [.d (.obj k), .d (.int dep), .d (.lst oddL), .un, .un] μ1) := by
        simp [B__law_odd, go, szL, pow31, hd0, h0, e1, h6, oddL]
        simp [dropS]
      rw [e]
      exact this
theorem odd_spec : ∀ (m dep : Nat) (μ : List Mo), dep ≤ m → Vat μ k → Gives k μ (fun r => vN (dep + 2) 45 r = true) (R__law_odd m [.obj k, .int dep] μ)
  | 0, dep, μ, h, v => by
    have : dep = 0 := by omega
    subst this
    obtain ⟨d, hd, μ2, e, dn⟩ := some_spec (xs := oddL) v (by simp [oddL]) (by simp [oddL])
    refine ⟨d, μ2, ?_, dn, vN_mono 2 2 45 45 d (by omega) (Nat.le_refl _) (oddL_ok d hd)⟩
    simp only [oddL] at e
    simp [R__law_odd, B0__law_odd, go, szL, pow31, e]
  | m + 1, dep, μ, h, v => by
    show Gives k μ _ (run 2 5 (B__law_odd (R__law_odd m)) [.obj k, .int dep] μ)
    refine odd_base v fun μ1 v1 h0 => ?_
    obtain ⟨dep, rfl⟩ : ∃ j, dep = j + 1 := ⟨dep - 1, by omega⟩
    obtain ⟨q, μ2, e2, d2, q0, q1⟩ := under_spec (m := 4) v1 (by decide) (by decide)
    have hrk : rgOk 0 q = true := by unfold rgOk; simp; omega
    have lrk : (rgD 0 q).length = q.toNat := by unfold rgD; simp
    obtain ⟨ds, μ3, e3, d3, l3, q3⟩ := comp_draw (n := k) (tg := .name 4) (keep := ev (.con (.bl true))) (elt := ev (.call (R__law_odd m) (.cons (.var 0) (.cons (.op .sub (.var 1) (.con (.int (1)))) .nil)))) (δ := [.d (.obj k), .d (.int ((dep + 1 : Nat) : Int)), .d (.lst oddL), .un, .un]) (Q := fun d => vN (dep + 2) 45 d = true) (fun δ μ => by simp) (rgD 0 q) [] μ2 d2.vat (by rw [lrk, szL]; show 0 + _ ≤ _; omega) (fun x hx => ⟨_, rfl, fun μ v => by
      obtain ⟨d, μ', e, dn, q⟩ := odd_spec m dep μ (by omega) v
      have hsub : ((dep + 1 : Nat) : Int) - 1 = dep := by omega
      exact ⟨d, μ', by simp [hsub, e], dn, q⟩⟩)
    obtain ⟨p, μ4, e4, d4, p0, p1⟩ := under_spec (m := 3) d3.vat (by decide) (by decide)
    have hlen : ds.length ≤ 45 := by rw [l3, lrk]; omega
    rw [List.nil_append] at e3
    by_cases hp : p = 0
    · subst hp
      refine ⟨.lst ds, μ4, ?_, (d2.trans d3).trans d4, vN_mkl hlen q3⟩
      simp at e3
      simp [dropS, B__law_odd, e2, hrk, kcomp, wipeS, e3, e4]
    · refine ⟨.tup ds, μ4, ?_, (d2.trans d3).trans d4, vN_mk hlen q3⟩
      simp at e3
      simp [dropS, B__law_odd, e2, hrk, kcomp, wipeS, e3, e4, hp]
theorem oddF_spec {dep : Nat} (v : Vat μ k) (h : dep ≤ 4) : Gives k μ (fun r => vN (dep + 2) 45 r = true) (F_law_odd [.obj k, .int dep] μ) := odd_spec 4 dep μ h v
/-! ### bent values -/
/-- behind the first two of near -/
theorem near_mem {n s : Nat} {d : D} {a b : D} (hs : 45 ≤ s) (ha : vN 3 45 a = true) (hb : vN 3 45 b = true) (L : List D) (hL : ∀ x ∈ L, vN (n + 3) (s + 2) x = true) : ∀ x ∈ [a, b] ++ L, vN (n + 3) (s + 2) x = true := by
  intro x hx
  rcases List.mem_append.mp hx with hx | hx
  · simp at hx
    rcases hx with rfl | rfl
    · exact vN_mono 3 (n + 3) 45 (s + 2) _ (by omega) (by omega) ha
    · exact vN_mono 3 (n + 3) 45 (s + 2) _ (by omega) (by omega) hb
  · exact hL x hx
def nearS : Ss := match B0__law_bent with
  | .cons (.ite _ a _) _ => a
  | _ => .nil
theorem near_spec2 (v : Vat μ k) {n s : Nat} {d : D} (hd : vN n s d = true) (hs : 45 ≤ s) (hs2 : s ≤ 500) {a2 a3 a4 : Sl} : ∃ r δ' μ', exs nearS [.d (.obj k), .d d, a2, a3, a4] μ = some (.rt r, δ', μ') ∧ Dn k μ μ' ∧ vN (n + 3) (s + 2) r = true := by
  obtain ⟨a, μ1, e1, d1, qa⟩ := oddF_spec (dep := 1) v (by omega)
  obtain ⟨b, μ2, e2, d2, qb⟩ := oddF_spec (dep := 1) d1.vat (by omega)
  simp only [Int.cast_ofNat_Int] at e1 e2
  have pick : ∀ L : List D, L.length ≤ 100 → (∀ x ∈ L, vN (n + 3) (s + 2) x = true) → ∃ r μ3, F_law_some [.obj k, .lst ([a, b] ++ L)] μ2 = some (.ok r, μ3) ∧ Dn k μ2 μ3 ∧ vN (n + 3) (s + 2) r = true := by
    intro L hl hL
    obtain ⟨r, hr, μ3, e3, d3⟩ := some_spec (xs := [a, b] ++ L) d2.vat (by simp) (by simp; omega)
    exact ⟨r, μ3, e3, d3, near_mem (d := d) hs qa qb L hL r hr⟩
  -- values of which only the two odd ones are taken
  have plain : (Bi.do .isi μ2 [d, .ty "str"] = some (.bl false)) → (Bi.do .isi μ2 [d, .ty "int"] = some (.bl false)) → ∃ r δ' μ', exs nearS [.d (.obj k), .d d, a2, a3, a4] μ = some (.rt r, δ', μ') ∧ Dn k μ μ' ∧ vN (n + 3) (s + 2) r = true := by
    intro i1 i2
    obtain ⟨r, μ3, e3, d3, q⟩ := pick [] (by simp) (by simp)
    simp at e3
    refine ⟨r, [.d (.obj k), .d d, .d (.lst [a, b]), a3, a4], μ3, ?_, (d1.trans d2).trans d3, q⟩
    simp [nearS, B0__law_bent, szL, e1, e2, i1, i2, e3]
  have words : ∀ w : Str, w = "x" ∨ w = "hole" ∨ w = "less" ∨ w = "clear" ∨ w = "major" → vN (n + 3) (s + 2) (.str w) = true := by
    intro w hw
    have : vN 0 45 (.str w) = true := by rcases hw with rfl | rfl | rfl | rfl | rfl <;> decide +kernel
    exact vN_mono 0 (n + 3) 45 (s + 2) _ (by omega) (by omega) this
  cases d with
  | non => exact plain (by simp) (by simp)
  | tup xs => exact plain (by simp) (by simp)
  | lst xs => exact plain (by simp) (by simp)
  | ty _ => cases n <;> simp [vN] at hd
  | glo _ => cases n <;> simp [vN] at hd
  | obj _ => cases n <;> simp [vN] at hd
  | scr _ => cases n <;> simp [vN] at hd
  | str z =>
    have hz : z.cps.toList.all (fun c => decide (c < 128)) = true ∧ z.length ≤ s := by
      have : (z.cps.toList.all (fun c => decide (c < 128)) && decide (z.length ≤ s)) = true := by cases n <;> simpa [vN] using hd
      rw [Bool.and_eq_true] at this
      exact ⟨this.1, of_decide_eq_true this.2⟩
    have hcut : slD μ2 (.str z) none (some (-1)) = some (.str (L2.cutS z none (some (-1)))) := by
      show (if z.length ≤ sizeLine then some (D.str (L2.cutS z none (some (-1)))) else none) = _
      rw [if_pos (by rw [szL]; omega)]
    have hup : Bi.do .upper μ2 [.str z] = some (.str (Txt.upper z)) := by
      show (if z.length ≤ 5592405 then some (D.str (Txt.upper z)) else none) = _
      rw [if_pos (by omega)]
    have q1 : vN (n + 3) (s + 2) (.str (L2.cutS z none (some (-1)))) = true := by
      have hl := L2.cutS_length z none (some (-1))
      have ha : (L2.cutS z none (some (-1))).cps.toList.all (fun c => decide (c < 128)) = true := by
        refine List.all_eq_true.mpr fun c hc => ?_
        have hc : c ∈ z.cps.toList := List.mem_of_mem_drop (List.mem_of_mem_take hc)
        exact List.all_eq_true.mp hz.1 c hc
      simp only [vN, ha, Bool.true_and]
      exact decide_eq_true (by omega)
    have q2 : vN (n + 3) (s + 2) (.str (Txt.upper z)) = true := by
      have e := PyProof.Rows.upper_ascii (x := z) fun c hc => of_decide_eq_true (List.all_eq_true.mp hz.1 c hc)
      have hl : (Txt.upper z).length = z.length := by rw [e]; simp [Str.length]
      have ha : (Txt.upper z).cps.toList.all (fun c => decide (c < 128)) = true := by
        rw [e]
        simp only [Array.toList_map, List.all_map]
        refine List.all_eq_true.mpr fun c hc => ?_
        have this : c < 128 := of_decide_eq_true (List.all_eq_true.mp hz.1 c hc)
        show decide (PyProof.Rows.up1 c < 128) = true
        refine decide_eq_true ?_
        unfold PyProof.Rows.up1
        split
        · omega
        · exact this
      simp only [vN, ha, hl, Bool.true_and]
      exact decide_eq_true (by omega)
    obtain ⟨r, μ3, e3, d3, q⟩ := pick [.str "x", .str "hole", .str "less", .str "clear", .str "major", .str (L2.cutS z none (some (-1))), .str (Txt.upper z)] (by simp) (by
      intro x hx
      simp at hx
      rcases hx with rfl | rfl | rfl | rfl | rfl | rfl | rfl
      · exact words _ (by simp)
      · exact words _ (by simp)
      · exact words _ (by simp)
      · exact words _ (by simp)
      · exact words _ (by simp)
      · exact q1
      · exact q2)
    simp at e3
    refine ⟨r, [.d (.obj k), .d (.str z), .d (.lst ([a, b] ++ [.str "x", .str "hole", .str "less", .str "clear", .str "major", .str (L2.cutS z none (some (-1))), .str (Txt.upper z)])), a3, a4], μ3, ?_, (d1.trans d2).trans d3, q⟩
    simp [nearS, B0__law_bent, szL, e1, e2, hcut, hup, e3]
  | bl c =>
    have hints : ∀ i : Int, i.natAbs < 100 → vN (n + 3) (s + 2) (.int i) = true := by
      intro i hi
      have : vN 0 45 (.int i) = true := decide_eq_true (by have : (100 : Nat) ≤ 10 ^ 45 := by decide
                                                           omega)
      exact vN_mono 0 (n + 3) 45 (s + 2) _ (by omega) (by omega) this
    have e5 : Bi.do .str μ2 [.bl c] = some (.str (if c = true then "True" else "False")) := rfl
    have q5 : vN (n + 3) (s + 2) (.str (if c = true then "True" else "False")) = true := by
      have : vN 0 45 (.str (if c = true then "True" else "False")) = true := by cases c <;> decide +kernel
      exact vN_mono 0 (n + 3) 45 (s + 2) _ (by omega) (by omega) this
    obtain ⟨r, μ3, e3, d3, q⟩ := pick [.int ((if c = true then 1 else 0) + 1), .int ((if c = true then 1 else 0) - 1), .bl (!c), .str (if c = true then "True" else "False"), .int (10 * if c = true then 1 else 0)] (by simp) (by
      intro x hx
      simp at hx
      rcases hx with rfl | rfl | rfl | rfl | rfl
      · exact hints _ (by cases c <;> decide)
      · exact hints _ (by cases c <;> decide)
      · cases n <;> rfl
      · cases c <;> exact q5
      · exact hints _ (by cases c <;> decide))
    refine ⟨r, [.d (.obj k), .d (.bl c), .d (.lst ([a, b] ++ [.int ((if c = true then 1 else 0) + 1), .int ((if c = true then 1 else 0) - 1), .bl (!c), .str (if c = true then "True" else "False"), .int (10 * if c = true then 1 else 0)])), a3, a4], μ3, ?_, (d1.trans d2).trans d3, q⟩
    have p1 : addD μ2 (.bl c) (.int 1) = some (.int ((if c = true then 1 else 0) + 1)) := rfl
    have p2 : Op.do .sub μ2 (.bl c) (.int 1) = some (.int ((if c = true then 1 else 0) - 1)) := rfl
    have p3 : mulD (.int 10) (.bl c) = some (.int (10 * if c = true then 1 else 0)) := rfl
    cases c <;> simp at e3 p1 p2 p3 e5 <;> simp [nearS, B0__law_bent, szL, e1, e2, p1, p2, p3, e5, truD, e3]
  | int i =>
    have hi : i.natAbs < 10 ^ s := by cases n <;> simpa [vN] using hd
    have hp : (10 : Nat) ^ (s + 2) = 10 ^ s * 100 := by rw [Nat.pow_add]
    have h1 : 0 < 10 ^ s := Nat.pow_pos (by decide)
    have hlog : i.natAbs.log2 < 1920 := by
      by_cases h0 : i.natAbs = 0
      · rw [h0]; decide
      · refine (Nat.log2_lt h0).mpr ?_
        have a : (10 : Nat) ^ s ≤ 10 ^ 500 := Nat.pow_le_pow_right (by decide) hs2
        have b : (10 : Nat) ^ 500 < 2 ^ 1920 := by decide +kernel
        omega
    have e5 : Bi.do .str μ2 [.int i] = some (.str (toString i)) := by
      show (if i.natAbs.log2 < 1920 then some (D.str (toString i)) else none) = _
      rw [if_pos hlog]
    have intq : ∀ j : Int, j.natAbs < 10 ^ s * 100 → vN (n + 3) (s + 2) (.int j) = true := by
      intro j hj
      show decide (j.natAbs < 10 ^ (s + 2)) = true
      exact decide_eq_true (by omega)
    have q5 : vN (n + 3) (s + 2) (.str (toString i)) = true := by
      have hl := PySem.int_text_length_le10 (a := i) (k := s) (by omega) hi
      have hl2 : (Str.ofString (toString i)).length = (toString i).length := PySem.ofString_length _
      have ha : (Str.ofString (toString i)).cps.toList.all (fun c => decide (c < 128)) = true := by
        rw [PyProof.Rows.signs_ofString]
        refine List.all_eq_true.mpr fun c hc => ?_
        obtain ⟨d, hd, rfl⟩ := List.mem_map.mp hc
        exact decide_eq_true (PySem.int_ascii i d hd)
      show ((Str.ofString (toString i)).cps.toList.all (fun c => decide (c < 128)) && decide ((Str.ofString (toString i)).length ≤ s + 2)) = true
      rw [ha, Bool.true_and]
      exact decide_eq_true (by omega)
    obtain ⟨r, μ3, e3, d3, q⟩ := pick [.int (i + 1), .int (i - 1), .bl (i == 0), .str (toString i), .int (10 * i)] (by simp) (by
      intro x hx
      simp at hx
      rcases hx with rfl | rfl | rfl | rfl | rfl
      · exact intq _ (by omega)
      · exact intq _ (by omega)
      · cases n <;> rfl
      · exact q5
      · exact intq _ (by omega))
    have p3 : mulD (.int 10) (.int i) = some (.int (10 * i)) := mul_t (by decide)
    refine ⟨r, [.d (.obj k), .d (.int i), .d (.lst ([a, b] ++ [.int (i + 1), .int (i - 1), .bl (i == 0), .str (toString i), .int (10 * i)])), a3, a4], μ3, ?_, (d1.trans d2).trans d3, q⟩
    simp at e3
    simp [nearS, B0__law_bent, szL, e1, e2, p3, e5, truD, e3]
end
end Kv
set_option Elab.async false
set_option linter.all false
set_option maxRecDepth 100000
set_option maxHeartbeats 4000000
/-! Kvg: values bent at any depth. -/
namespace Kv
open PySem L2 Mi Pg Ev Dr Mm
section
variable {k : Nat} {μ : List Mo}
/-- the part ahead of the choice of a place -/
def restS : Ss → Ss
  | .cons _ r => r
  | .nil => .nil
def condE : E := .or_ (.not_ (.bi .isi (.cons (.var 1) (.cons (.con (.ty "tuple")) .nil)))) (.or_ (.op .eq (.var 1) (.tup .nil)) (.op .eq (.call F_law_under (.cons (.var 0) (.cons (.con (.int (7))) .nil))) (.con (.int (0)))))
theorem bent_head (v : Vat μ k) {r : Ss} {n s : Nat} {d : D} (hd : vN n s d = true) (hn : n ≤ 60) (hs : 45 ≤ s) (hs2 : s ≤ 500)
    (rest : ∀ xs μ1, d = .tup xs → xs ≠ [] → Vat μ1 k → Dr.Gives k μ1 (fun r => vN (n + 3) (s + 2) r = true) (Ev.fin (exs r [.d (.obj k), .d d, .un, .un, .un] μ1))) : Dr.Gives k μ (fun r => vN (n + 3) (s + 2) r = true) (Mi.run 2 5 (.cons (.ite condE nearS .nil) r) [.obj k, d] μ) := by
  have near : ∀ μ1, Dn k μ μ1 → Vat μ1 k → (Mi.run 2 5 (.cons (.ite condE nearS .nil) r) [.obj k, d] μ = Ev.fin (Ev.thenS (exs nearS [.d (.obj k), .d d, .un, .un, .un] μ1) (exs r))) → Dr.Gives k μ (fun r => vN (n + 3) (s + 2) r = true) (Mi.run 2 5 (.cons (.ite condE nearS .nil) r) [.obj k, d] μ) := by
    intro μ1 d1 v1 e
    obtain ⟨x, δ', μ2, e2, d2, q⟩ := near_spec2 v1 hd hs hs2 (a2 := .un) (a3 := .un) (a4 := .un)
    rw [e, e2]
    exact ⟨x, μ2, by simp, d1.trans d2, q⟩
  have notT : Bi.do .isi μ [d, .ty "tuple"] = some (.bl false) → Dr.Gives k μ (fun r => vN (n + 3) (s + 2) r = true) (Mi.run 2 5 (.cons (.ite condE nearS .nil) r) [.obj k, d] μ) := fun hi => near μ v.dn v (by simp [condE, go, hi])
  cases d with
  | non => exact notT (by simp)
  | bl _ => exact notT (by simp)
  | int _ => exact notT (by simp)
  | str _ => exact notT (by simp)
  | lst _ => exact notT (by simp)
  | ty _ => cases n <;> simp [vN] at hd
  | glo _ => cases n <;> simp [vN] at hd
  | obj _ => cases n <;> simp [vN] at hd
  | scr _ => cases n <;> simp [vN] at hd
  | tup xs =>
    have ho := vN_ok n s _ hd
    obtain ⟨m, rfl, ho2⟩ := ok_tup ho
    cases xs with
    | nil => exact near μ v.dn v (by simp [condE, go, szL, eq_tnil (μ := μ) (xs := []) rfl])
    | cons x xs =>
      have hne := tup_ne (μ := μ) (show m ≤ 63 by omega) ho2
      obtain ⟨q, μ1, e1, d1, q0, q1⟩ := under_spec (m := 7) v (by decide) (by decide)
      by_cases hq : q = 0
      · subst hq
        exact near μ1 d1 d1.vat (by simp [condE, go, szL, hne, e1])
      · refine Dr.Gives.of ?_ d1
        have e : Mi.run 2 5 (.cons (.ite condE nearS .nil) r) [.obj k, .tup (x :: xs)] μ = Ev.fin (exs r [.d (.obj k), .d (.tup (x :: xs)), .un, .un, .un] μ1) := by
          simp [condE, go, szL, hne, e1, hq]
        rw [e]
        exact rest (x :: xs) μ1 rfl (by simp) d1.vat
theorem bent_spec : ∀ (m n s : Nat) (d : D) (μ : List Mo), n ≤ m → n ≤ 60 → 45 ≤ s → s ≤ 500 → vN n s d = true → Vat μ k → Dr.Gives k μ (fun r => vN (n + 3) (s + 2) r = true) (R__law_bent m [.obj k, d] μ)
  | 0, n, s, d, μ, hm, hn, hs, hs2, hd, v => by
    refine bent_head v (r := restS B0__law_bent) hd hn hs hs2 fun xs μ1 e ne v1 => ?_
    subst e
    obtain ⟨j, rfl, _⟩ := vN_tup hd
    omega
  | m + 1, n, s, d, μ, hm, hn, hs, hs2, hd, v => by
    show Dr.Gives k μ _ (Mi.run 2 5 (B__law_bent (R__law_bent m)) [.obj k, d] μ)
    refine bent_head v (r := restS (B__law_bent (R__law_bent m))) hd hn hs hs2 fun xs μ1 e ne v1 => ?_
    subst e
    obtain ⟨j, rfl, hl, hx⟩ := vN_tup hd
    have hx' : ∀ x ∈ xs, vN (j + 3) (s + 2) x = true := fun x h => vN_mono j (j + 3) s (s + 2) x (by omega) (by omega) (hx x h)
    have hpos : 0 < xs.length := List.length_pos_iff.mpr ne
    obtain ⟨i, μ2, e2, d2, i0, i1⟩ := under_spec (m := (xs.length : Int)) v1 (by omega) (by omega)
    obtain ⟨i, rfl⟩ : ∃ q : Nat, i = q := ⟨i.toNat, by omega⟩
    obtain ⟨w, μ3, e3, d3, w0, w1⟩ := under_spec (m := 9) d2.vat (by decide) (by decide)
    have hi : i < xs.length := by omega
    have c0 := cut_take xs i
    have c1 := cut_drop xs (i + 1)
    have c2 := cut_take xs (i + 1)
    have c3 := cut_drop xs i
    simp only [Int.natCast_add, Int.cast_ofNat_Int] at c1 c2
    have mk : ∀ ys : List D, ys.length ≤ s + 2 → (∀ y ∈ ys, vN (j + 3) (s + 2) y = true) → vN (j + 1 + 3) (s + 2) (.tup ys) = true := fun ys a b => vN_mk a b
    have ht : ∀ q, ∀ x ∈ xs.take q, vN (j + 3) (s + 2) x = true := fun q x h => hx' x (List.mem_of_mem_take h)
    have hdr : ∀ q, ∀ x ∈ xs.drop q, vN (j + 3) (s + 2) x = true := fun q x h => hx' x (List.mem_of_mem_drop h)
    by_cases h0 : w = 0
    · subst h0
      refine ⟨.tup (xs.take i ++ xs.drop (i + 1)), μ3, ?_, d2.trans d3, mk _ (by simp; omega) fun y hy => ?_⟩
      · have z1 : (xs.take i).length + (xs.drop (i + 1)).length ≤ 16777216 := by simp; omega
        simp only [List.length_take, List.length_drop] at z1
        simp [restS, B__law_bent, e2, e3, szL, c0, c1, z1]
      · rcases List.mem_append.mp hy with hy | hy
        · exact ht _ y hy
        · exact hdr _ y hy
    · by_cases h1 : w = 1
      · subst h1
        refine ⟨.tup (xs.take (i + 1) ++ xs.drop i), μ3, ?_, d2.trans d3, mk _ (by simp; omega) fun y hy => ?_⟩
        · have z1 : (xs.take (i + 1)).length + (xs.drop i).length ≤ 16777216 := by simp; omega
          simp only [List.length_take, List.length_drop] at z1
          simp [restS, B__law_bent, e2, e3, szL, c2, c3, z1]
        · rcases List.mem_append.mp hy with hy | hy
          · exact ht _ y hy
          · exact hdr _ y hy
      · by_cases h2 : w = 2
        · subst h2
          have hrev : revD μ3 (.tup xs) = some (.tup xs.reverse) := rfl
          refine ⟨.tup xs.reverse, μ3, ?_, d2.trans d3, mk _ (by simp; omega) fun y hy => hx' y (List.mem_reverse.mp hy)⟩
          simp [restS, B__law_bent, e2, e3, szL, hrev]
        · by_cases h3 : w = 3
          · subst h3
            refine ⟨.lst xs, μ3, ?_, d2.trans d3, vN_mkl (by omega) hx'⟩
            simp [restS, B__law_bent, e2, e3, szL]
          · have hai : L2.atI xs (i : Int) = some xs[i] := by
              have := atI_map (fun x : D => x) (xs[i]) hi
              simpa [hi] using this
            obtain ⟨r, μ4, e4, d4, q4⟩ := bent_spec m j s xs[i] μ3 (by omega) (by omega) hs hs2 (hx _ (List.getElem_mem hi)) d3.vat
            refine ⟨.tup (xs.take i ++ [r] ++ xs.drop (i + 1)), μ4, ?_, (d2.trans d3).trans d4, mk _ (by simp; omega) fun y hy => ?_⟩
            · have z1 : (xs.take i).length + 1 ≤ 16777216 := by simp; omega
              have z2 : (xs.take i).length + 1 + (xs.drop (i + 1)).length ≤ 16777216 := by simp; omega
              have z3 : (xs.take i).length + ((xs.drop (i + 1)).length + 1) ≤ 16777216 := by simp; omega
              simp only [List.length_take, List.length_drop] at z1 z2 z3
              simp [restS, B__law_bent, e2, e3, szL, h0, h1, h2, h3, hai, e4, c0, c1, z1, z2, z3]
            · rcases List.mem_append.mp hy with hy | hy
              · rcases List.mem_append.mp hy with hy | hy
                · exact ht _ y hy
                · simp at hy; subst hy; exact q4
              · exact hdr _ y hy
end
end Kv
set_option Elab.async false
set_option linter.all false
set_option maxRecDepth 100000
set_option maxHeartbeats 4000000
/-! Kvv: drawn boards are plain values. -/
namespace Kv
open PySem L2 Mi Pg Ev Dr Mm
section
variable {μ : List Mo} {k nc ns : Nat}
theorem vi {i : Int} (h : i.natAbs < 1000000000000000000000000000000000) (n : Nat) : vN n 45 (.int i) = true := by
  have : (1000000000000000000000000000000000 : Nat) ≤ 10 ^ 45 := by decide
  have h2 : i.natAbs < 10 ^ 45 := by omega
  cases n <;> simpa [vN] using h2
theorem vup {n m : Nat} {d : D} (h : vN n 45 d = true) (hm : n ≤ m) : vN m 45 d = true := vN_mono n m 45 45 d hm (Nat.le_refl _) h
theorem vs {w : Str} (h : vN 0 45 (.str w) = true) (n : Nat) : vN n 45 (.str w) = true := vup h (Nat.zero_le _)
theorem vb (b : Bool) (n : Nat) : vN n 45 (.bl b) = true := by cases n <;> rfl
theorem vnon (n : Nat) : vN n 45 .non = true := by cases n <;> rfl
section
variable {nc ns : Nat}
theorem src_v {s : Src} {w : When} (h : s.ok nc w) (hc : nc ≤ 3) (n : Nat) : vN n 45 s.d = true := by
  cases s with
  | x => exact vs (by decide +kernel) n
  | y => exact vs (by decide +kernel) n
  | c i =>
    have : i < nc := h
    exact vi (by omega) n
theorem act_v {a : Dr.Act} {w : When} (h : a.ok nc ns w) (hc : nc ≤ 3) (hs : ns ≤ 2) : vN 2 45 a.d = true := by
  cases a with
  | add l s i =>
    obtain ⟨h1, h2⟩ : s.ok nc w ∧ i < nc := h
    refine vN_mk (by simp) fun x hx => ?_
    simp at hx
    rcases hx with rfl | rfl | rfl
    · cases l <;> exact vs (by decide +kernel) 1
    · exact src_v h1 hc 1
    · exact vi (by omega) 1
  | clear i =>
    have h2 : i < nc := h
    refine vN_mk (by simp) fun x hx => ?_
    simp at hx
    rcases hx with rfl | rfl
    · exact vs (by decide +kernel) 1
    · exact vi (by omega) 1
  | set i b =>
    have h2 : i < ns := h
    refine vN_mk (by simp) fun x hx => ?_
    simp at hx
    rcases hx with rfl | rfl | rfl
    · exact vs (by decide +kernel) 1
    · exact vi (by omega) 1
    · exact vb _ 1
  | print ss =>
    obtain ⟨h1, h2, h3⟩ : 1 ≤ ss.length ∧ ss.length ≤ 3 ∧ ∀ s ∈ ss, s.ok nc w := h
    refine vN_mk (by simp) fun x hx => ?_
    simp at hx
    rcases hx with rfl | rfl
    · exact vs (by decide +kernel) 1
    · refine vN_mk (by simp; omega) fun x hx => ?_
      obtain ⟨s, hs, rfl⟩ := List.mem_map.mp hx
      exact src_v (h3 s hs) hc 0
theorem wire_v {a : Wire} (h : a.ok nc ns) (hc : nc ≤ 3) (hs : ns ≤ 2) : vN 3 45 a.d = true := by
  obtain ⟨w, sw, a⟩ := a
  obtain ⟨h1, h2⟩ := h
  have h2 : a.ok nc ns w := h2
  refine vN_mk (by simp) fun x hx => ?_
  simp at hx
  rcases hx with rfl | rfl | rfl
  · cases w <;> exact vs (by decide +kernel) 2
  · rcases sw with _ | ⟨i, b⟩
    · exact vnon 2
    · have h1 : i < ns := h1 i b rfl
      refine vN_mk (by simp) fun x hx => ?_
      simp at hx
      rcases hx with rfl | rfl
      · exact vi (by omega) 1
      · exact vb _ 1
  · exact act_v h2 hc hs
end
theorem board_v {b : Board} (h : b.ok) : vN 5 45 b.d = true := by
  have hc := h.c
  have hs := h.s
  have hl := h.l
  refine vN_mk (by simp) fun x hx => ?_
  simp at hx
  rcases hx with rfl | rfl | rfl
  · exact vi (by omega) 4
  · exact vi (by omega) 4
  · refine vN_mk (by simp; omega) fun x hx => ?_
    obtain ⟨w, hw, rfl⟩ := List.mem_map.mp hx
    exact wire_v (h.w w hw) hc hs
end
end Kv
set_option Elab.async false
set_option linter.all false
set_option maxRecDepth 100000
set_option maxHeartbeats 4000000
/-! Evr: the newer forms, one by one. -/
namespace Ev
open PySem L2 Mi
def kd3 (a : Nat) (F : Sem) (xs : List D) (μ : List Mo) : RM D := if xs.length = a then F xs μ else none
def kd2 (es : Es) (δ : List Sl) (μ : List Mo) : Option (Nat × Sem) → RM D
  | some (a, F) => bindR (evs es δ μ) (kd3 a F)
  | none => none
def kd1 (tb : List (Str × Nat × Sem)) (es : Es) (δ : List Sl) (μ : List Mo) : Option Sl → RM D
  | some (.d (.glo x)) => kd2 es δ μ (tb.lookup x)
  | _ => none
def klc (i : Nat) (δ : List Sl) : D → List Mo → SM
  | .lst xs, μ => some (.nx, δ.set i (.lin xs), μ)
  | _, _ => none
def klp2 (i : Nat) (δ : List Sl) (xs : List D) (v : D) : D → List Mo → SM
  | .int k, μ => (L2.ixN xs.length k).bind fun n => some (.nx, δ.set i (.lin (xs.set n v)), μ)
  | _, _ => none
def klp1 (i : Nat) (j : E) (δ : List Sl) (v : D) (μ : List Mo) : Option Sl → SM
  | some (.lin xs) => thenE (ev j δ μ) δ (klp2 i δ xs v)
  | _ => none
def klp0 (i : Nat) (j : E) (δ : List Sl) (v : D) (μ : List Mo) : SM := klp1 i j δ v μ δ[i]?
def ksl (i j : Nat) (δ : List Sl) (x : D) (μ : List Mo) : SM := some (.nx, (δ.set i (.d x)).set j (.lin []), μ)
section
variable {δ : List Sl} {μ : List Mo} {a b c e j : E} {es : Es} {i k : Nat} {d x y : D} {xs : List D} {F : Sem} {tb : List (Str × Nat × Sem)}
@[simp] theorem e_dyn : ev (.dyn i tb es) δ μ = kd1 tb es δ μ δ[i]? := by
  simp only [ev]
  generalize δ[i]? = o
  rcases o with _ | o
  · rfl
  · cases o with
    | d z =>
      cases z with
      | glo z =>
        simp only [kd1]
        cases tb.lookup z with
        | none => rfl
        | some p => rfl
      | _ => rfl
    | _ => rfl
@[simp] theorem e_kd1 {z : Str} : kd1 tb es δ μ (some (.d (.glo z))) = kd2 es δ μ (tb.lookup z) := nr rfl
@[simp] theorem e_kd2 {n : Nat} : kd2 es δ μ (some (n, F)) = bindR (evs es δ μ) (kd3 n F) := nr rfl
@[simp] theorem e_kd3 {n : Nat} (h : xs.length = n) : kd3 n F xs μ = F xs μ := if_pos h
@[simp] theorem x_linc : ex (.linc i e) δ μ = thenE (ev e δ μ) δ (klc i δ) := by simp only [ex]; exact tx fun d μ => by cases d <;> rfl
@[simp] theorem x_klc : klc i δ (.lst xs) μ = some (.nx, δ.set i (.lin xs), μ) := nr rfl
@[simp] theorem x_lput : ex (.lput i j e) δ μ = thenE (ev e δ μ) δ (klp0 i j δ) := by
  simp only [ex]
  refine tx fun d μ => ?_
  unfold klp0
  generalize δ[i]? = o
  rcases o with _ | o
  · rfl
  · cases o with
    | lin xs => exact tx fun d μ => by cases d <;> rfl
    | _ => rfl
@[simp] theorem x_klp0 : klp0 i j δ d μ = klp1 i j δ d μ δ[i]? := nr rfl
@[simp] theorem x_klp1 : klp1 i j δ d μ (some (.lin xs)) = thenE (ev j δ μ) δ (klp2 i δ xs d) := nr rfl
@[simp] theorem x_klp2 {k : Int} : klp2 i δ xs d (.int k) μ = (L2.ixN xs.length k).bind fun n => some (.nx, δ.set i (.lin (xs.set n d)), μ) := nr rfl
@[simp] theorem x_setl : ex (.setl i k e) δ μ = thenE (ev e δ μ) δ (ksl i k δ) := by simp only [ex]; rfl
@[simp] theorem x_ksl : ksl i k δ x μ = some (.nx, (δ.set i (.d x)).set k (.lin []), μ) := nr rfl
end
/-- one turn of a loop -/
theorem forL_nx {tg : Tg} {body : List Sl → List Mo → SM} {x : D} {xs : List D} {δ δ1 δ2 : List Sl} {μ μ2 : List Mo} (p : tg.put x δ = some δ1) (b : body δ1 μ = some (.nx, δ2, μ2)) : forL tg body (x :: xs) δ μ = forL tg body xs δ2 μ2 := by
  simp only [forL, p, Option.bind_some, b]
end Ev
set_option Elab.async false
set_option linter.all false
set_option maxRecDepth 100000
set_option maxHeartbeats 0
/-! What is read off the defs of the text, made by wip/genlaw.py; each reading is computed anew here. -/
namespace K10
open PySem PySem.Spec PyProof.Rows L2 Mi Pg
abbrev PW : Program := PySem.Challenge.pw_allcards_k10_errors_of_relations
def top (i : Nat) : Stmt := PW.main.body.getD i (.Pass ⟨0, 0, 0, 0⟩)
def csL : List Str := [("InvalidBoard" : Str), ("InvalidRow" : Str), ("InvalidDeck" : Str), ("InvalidCard" : Str), ("InvalidPattern" : Str), ("InvalidForm" : Str), ("InvalidIndex" : Str), ("InvalidFactors" : Str), ("InvalidSeen" : Str), ("InvalidLevel" : Str), ("NoCard" : Str), ("NothingToUndo" : Str), ("TooMany" : Str), ("InvalidText" : Str), ("ValueError" : Str)]
def labL : Str := "board row deck card pattern form index factors seen level none undo many text value"
def lbl : List (Str × List Bool) := [("InvalidBoard", [true, false, false, false, false, false, false, false, false, false, false, false, false, false, true]), ("InvalidFactors", [false, false, false, false, false, false, false, true, false, false, false, false, false, false, true]), ("InvalidIndex", [false, false, false, false, false, false, true, false, false, false, false, false, false, false, true])]
def NMS : List (Str × Str) := [("InvalidBoard", "board value"), ("InvalidFactors", "factors value"), ("InvalidIndex", "index value")]
def cons : List (Str × D) := [("MOST_WIRES", (.int (8))), ("TIMES", (.tup [(.str "card"), (.str "hole"), (.str "plain"), (.str "minor"), (.str "major")])), ("NUMBERS", (.tup [(.tup [(.int (0)), (.int (0))]), (.tup [(.int (1)), (.int (0))]), (.tup [(.int (0)), (.int (1))])])), ("LARGE", (.int (1000000000000000000000000000000)))]
def excs : List Str := ["InvalidBoard", "InvalidFactors", "InvalidIndex"]
def cf0 : Cf := { fns := [], cons := cons, excs := excs, err := some ("_law_error", NMS), tru := [(350, 49)] }
theorem rd_is_whole : cSsF (cf0.at [] [] [] false) (cS (cf0.at [] [] [] false) N_is_whole 40 (defScope (top 19))) (defBody (top 19)) = some B_is_whole := by kernel_rfl
theorem sc_is_whole : scB N_is_whole ["value", "low", "high"] (defScope (top 19)) = true := by kernel_rfl
theorem rd_is_word : cSsF (cf0.at [] [] [] false) (cS (cf0.at [] [] [] false) N_is_word 40 (defScope (top 20))) (defBody (top 20)) = some B_is_word := by kernel_rfl
theorem sc_is_word : scB N_is_word ["value", "words"] (defScope (top 20)) = true := by kernel_rfl
theorem rd_break_between : cSsF (cf0.at [] [] [] false) (cS (cf0.at [] [] [] false) N_break_between 40 (defScope (top 28))) (defBody (top 28)) = some B_break_between := by kernel_rfl
theorem sc_break_between : scB N_break_between ["one", "other"] (defScope (top 28)) = true := by kernel_rfl
theorem rd_begin : cSsF (cf0.at [] [] [] false) (cS (cf0.at [] [] [] false) N_begin 40 (defScope (top 30))) (defBody (top 30)) = some B_begin := by kernel_rfl
theorem sc_begin : scB N_begin ["board"] (defScope (top 30)) = true := by kernel_rfl
theorem rd_number_of : cSsF (cf0.at [] [] [] false) (cS (cf0.at [] [] [] false) N_number_of 40 (defScope (top 31))) (defBody (top 31)) = some B_number_of := by kernel_rfl
theorem sc_number_of : scB N_number_of ["counters", "card", "source"] (defScope (top 31)) = true := by kernel_rfl
theorem rd_with_item : cSsF (cf0.at [] [] [] false) (cS (cf0.at [] [] [] false) N_with_item 40 (defScope (top 32))) (defBody (top 32)) = some B_with_item := by kernel_rfl
theorem sc_with_item : scB N_with_item ["row", "at", "item"] (defScope (top 32)) = true := by kernel_rfl
theorem rd_is_done : cSsF (cf0.at [] [] [] false) (cS (cf0.at [] [] [] false) N_is_done 40 (defScope (top 33))) (defBody (top 33)) = some B_is_done := by kernel_rfl
theorem sc_is_done : scB N_is_done ["switches", "wire"] (defScope (top 33)) = true := by kernel_rfl
theorem rd_shortest : cSsF (cf0.at [] [] [] false) (cS (cf0.at [] [] [] false) N_shortest 40 (defScope (top 39))) (defBody (top 39)) = some B_shortest := by kernel_rfl
theorem sc_shortest : scB N_shortest ["row"] (defScope (top 39)) = true := by kernel_rfl
theorem rd_place_of : cSsF (cf0.at [] [] [] false) (cS (cf0.at [] [] [] false) N_place_of 40 (defScope (top 40))) (defBody (top 40)) = some B_place_of := by kernel_rfl
theorem sc_place_of : scB N_place_of ["row"] (defScope (top 40)) = true := by kernel_rfl
theorem rd_next_cards : cSsF (cf0.at [] [] [] false) (cS (cf0.at [] [] [] false) N_next_cards 40 (defScope (top 48))) (defBody (top 48)) = some B_next_cards := by kernel_rfl
theorem sc_next_cards : scB N_next_cards ["deck"] (defScope (top 48)) = true := by kernel_rfl
theorem rd_items_of : cSsF (cf0.at [] [] [] false) (cS (cf0.at [] [] [] false) N_items_of 40 (defScope (top 51))) (defBody (top 51)) = some B_items_of := by kernel_rfl
theorem sc_items_of : scB N_items_of ["printed", "index"] (defScope (top 51)) = true := by kernel_rfl
theorem rd__law_vat : cSsF (cf0.at [] [(248, 11)] [] false) (cS (cf0.at [] [(248, 11)] [] false) N__law_vat 40 (defScope (top 59))) (defBody (top 59)) = some B__law_vat := by kernel_rfl
theorem sc__law_vat : scB N__law_vat ["script", "k"] (defScope (top 59)) = true := by kernel_rfl
theorem rd__law_under : cSsF (cf0.at [] [] [] false) (cS (cf0.at [] [] [] false) N__law_under 40 (defScope (top 60))) (defBody (top 60)) = some B__law_under := by kernel_rfl
theorem sc__law_under : scB N__law_under ["vat", "many"] (defScope (top 60)) = true := by kernel_rfl
theorem rd__law_is_whole : cSsF (cf0.at [] [] [] false) (cS (cf0.at [] [] [] false) N__law_is_whole 40 (defScope (top 62))) (defBody (top 62)) = some B__law_is_whole := by kernel_rfl
theorem sc__law_is_whole : scB N__law_is_whole ["value", "low", "high"] (defScope (top 62)) = true := by kernel_rfl
theorem rd__law_is_one_of : cSsF (cf0.at [] [] [] false) (cS (cf0.at [] [] [] false) N__law_is_one_of 40 (defScope (top 63))) (defBody (top 63)) = some B__law_is_one_of := by kernel_rfl
theorem sc__law_is_one_of : scB N__law_is_one_of ["value", "some"] (defScope (top 63)) = true := by kernel_rfl
def cf1 : Cf := { cf0 with fns := ("_law_is_one_of", 2, F_law_is_one_of) :: ("_law_is_whole", 3, F_law_is_whole) :: ("_law_under", 2, F_law_under) :: ("_law_vat", 2, F_law_vat) :: ("items_of", 2, Fitems_of) :: ("next_cards", 1, Fnext_cards) :: ("place_of", 1, Fplace_of) :: ("shortest", 1, Fshortest) :: ("is_done", 2, Fis_done) :: ("with_item", 3, Fwith_item) :: ("number_of", 3, Fnumber_of) :: ("begin", 1, Fbegin) :: ("break_between", 2, Fbreak_between) :: ("is_word", 2, Fis_word) :: ("is_whole", 3, Fis_whole) :: cf0.fns }
theorem rd_is_source : cSsF (cf1.at [] [] [] false) (cS (cf1.at [] [] [] false) N_is_source 40 (defScope (top 21))) (defBody (top 21)) = some B_is_source := by kernel_rfl
theorem sc_is_source : scB N_is_source ["board", "when", "value"] (defScope (top 21)) = true := by kernel_rfl
theorem rd_need_wire : cSsF (cf1.at [] [] [] false) (cS (cf1.at [] [] [] false) N_need_wire 40 (defScope (top 27))) (defBody (top 27)) = some B_need_wire := by kernel_rfl
theorem sc_need_wire : scB N_need_wire ["board", "index"] (defScope (top 27)) = true := by kernel_rfl
theorem rd_done : cSsF (cf1.at [] [] [] false) (cS (cf1.at [] [] [] false) N_done 40 (defScope (top 34))) (defBody (top 34)) = some B_done := by kernel_rfl
theorem sc_done : scB N_done ["counters", "switches", "action", "card"] (defScope (top 34)) = true := by kernel_rfl
theorem rd_without : cSsF (cf1.at [] [] [] false) (cS (cf1.at [] [] [] false) N_without 40 (defScope (top 41))) (defBody (top 41)) = some B_without := by kernel_rfl
theorem sc_without : scB N_without ["row", "other"] (defScope (top 41)) = true := by kernel_rfl
theorem rd__law_some : cSsF (cf1.at [] [] [] false) (cS (cf1.at [] [] [] false) N__law_some 40 (defScope (top 61))) (defBody (top 61)) = some B__law_some := by kernel_rfl
theorem sc__law_some : scB N__law_some ["vat", "things"] (defScope (top 61)) = true := by kernel_rfl
theorem rd__law_is_from : cSsF (cf1.at [] [] [] false) (cS (cf1.at [] [] [] false) N__law_is_from 40 (defScope (top 64))) (defBody (top 64)) = some B__law_is_from := by kernel_rfl
theorem sc__law_is_from : scB N__law_is_from ["frame", "when", "value"] (defScope (top 64)) = true := by kernel_rfl
def cf2 : Cf := { cf1 with fns := ("_law_is_from", 3, F_law_is_from) :: ("_law_some", 2, F_law_some) :: ("without", 2, Fwithout) :: ("done", 4, Fdone) :: ("need_wire", 2, Fneed_wire) :: ("is_source", 3, Fis_source) :: cf1.fns }
theorem rd_is_printing : cSsF (cf2.at [] [] [] false) (cS (cf2.at [] [] [] false) N_is_printing 40 (defScope (top 22))) (defBody (top 22)) = some B_is_printing := by kernel_rfl
theorem sc_is_printing : scB N_is_printing ["board", "when", "value"] (defScope (top 22)) = true := by kernel_rfl
theorem rd_passed : cSsF (cf2.at [] [] [] false) (cS (cf2.at [] [] [] false) N_passed 40 (defScope (top 35))) (defBody (top 35)) = some B_passed := by kernel_rfl
theorem sc_passed : scB N_passed ["board", "times", "counters", "switches", "card"] (defScope (top 35)) = true := by kernel_rfl
theorem rd_rest_of : cSsF (cf2.at [] [] [] false) (cS (cf2.at [] [] [] false) N_rest_of 40 (defScope (top 42))) (defBody (top 42)) = some B_rest_of := by kernel_rfl
theorem sc_rest_of : scB N_rest_of ["span", "row"] (defScope (top 42)) = true := by kernel_rfl
theorem rd_plain : cSsF (cf2.at [] [] [] false) (cS (cf2.at [] [] [] false) N_plain 40 (defScope (top 44))) (defBody (top 44)) = some B_plain := by kernel_rfl
theorem sc_plain : scB N_plain ["span"] (defScope (top 44)) = true := by kernel_rfl
theorem rd__law_is_act : cSsF (cf2.at [] [] [] false) (cS (cf2.at [] [] [] false) N__law_is_act 40 (defScope (top 65))) (defBody (top 65)) = some B__law_is_act := by kernel_rfl
theorem sc__law_is_act : scB N__law_is_act ["frame", "when", "value"] (defScope (top 65)) = true := by kernel_rfl
theorem rd__law_act : cSsF (cf2.at [] [] [] false) (cS (cf2.at [] [] [] false) N__law_act 40 (defScope (top 68))) (defBody (top 68)) = some B__law_act := by kernel_rfl
theorem sc__law_act : scB N__law_act ["vat", "frame", "when"] (defScope (top 68)) = true := by kernel_rfl
theorem rd0__law_odd : cSsF (cf2.at [] [] [] false) (cS (cf2.at [] [] [] false) N__law_odd 40 (defScope (top 73))) (defBody (top 73)) = some B0__law_odd := by kernel_rfl
theorem rd__law_odd (F : Sem) : cSsF (({ cf2 with fns := ("_law_odd", 2, F) :: cf2.fns } : Cf).at [] [] [] false) (cS (({ cf2 with fns := ("_law_odd", 2, F) :: cf2.fns } : Cf).at [] [] [] false) N__law_odd 40 (defScope (top 73))) (defBody (top 73)) = some (B__law_odd F) := by kernel_rfl
theorem sc__law_odd : scB N__law_odd ["vat", "depth"] (defScope (top 73)) = true := by kernel_rfl
def cf3 : Cf := { cf2 with fns := ("_law_odd", 2, F_law_odd) :: ("_law_act", 3, F_law_act) :: ("_law_is_act", 3, F_law_is_act) :: ("plain", 1, Fplain) :: ("rest_of", 2, Frest_of) :: ("passed", 5, Fpassed) :: ("is_printing", 3, Fis_printing) :: cf2.fns }
theorem rd_is_action : cSsF (cf3.at [] [] [] false) (cS (cf3.at [] [] [] false) N_is_action 40 (defScope (top 23))) (defBody (top 23)) = some B_is_action := by kernel_rfl
theorem sc_is_action : scB N_is_action ["board", "when", "value"] (defScope (top 23)) = true := by kernel_rfl
theorem rd_feed : cSsF (cf3.at [] [] [] false) (cS (cf3.at [] [] [] false) N_feed 40 (defScope (top 36))) (defBody (top 36)) = some B_feed := by kernel_rfl
theorem sc_feed : scB N_feed ["board", "stand", "card"] (defScope (top 36)) = true := by kernel_rfl
theorem rd_finish : cSsF (cf3.at [] [] [] false) (cS (cf3.at [] [] [] false) N_finish 40 (defScope (top 37))) (defBody (top 37)) = some B_finish := by kernel_rfl
theorem sc_finish : scB N_finish ["board", "stand"] (defScope (top 37)) = true := by kernel_rfl
theorem rd_with_row : cSsF (cf3.at [] [] [] false) (cS (cf3.at [] [] [] false) N_with_row 40 (defScope (top 43))) (defBody (top 43)) = some B_with_row := by kernel_rfl
theorem sc_with_row : scB N_with_row ["span", "row"] (defScope (top 43)) = true := by kernel_rfl
theorem rd__law_is_wire : cSsF (cf3.at [] [] [] false) (cS (cf3.at [] [] [] false) N__law_is_wire 40 (defScope (top 66))) (defBody (top 66)) = some B__law_is_wire := by kernel_rfl
theorem sc__law_is_wire : scB N__law_is_wire ["frame", "value"] (defScope (top 66)) = true := by kernel_rfl
theorem rd__law_wire : cSsF (cf3.at [] [] [] false) (cS (cf3.at [] [] [] false) N__law_wire 40 (defScope (top 69))) (defBody (top 69)) = some B__law_wire := by kernel_rfl
theorem sc__law_wire : scB N__law_wire ["vat", "frame"] (defScope (top 69)) = true := by kernel_rfl
theorem rd0__law_bent : cSsF (cf3.at [] [] [] false) (cS (cf3.at [] [] [] false) N__law_bent 40 (defScope (top 74))) (defBody (top 74)) = some B0__law_bent := by kernel_rfl
theorem rd__law_bent (F : Sem) : cSsF (({ cf3 with fns := ("_law_bent", 2, F) :: cf3.fns } : Cf).at [] [] [] false) (cS (({ cf3 with fns := ("_law_bent", 2, F) :: cf3.fns } : Cf).at [] [] [] false) N__law_bent 40 (defScope (top 74))) (defBody (top 74)) = some (B__law_bent F) := by kernel_rfl
theorem sc__law_bent : scB N__law_bent ["vat", "value"] (defScope (top 74)) = true := by kernel_rfl
def cf4 : Cf := { cf3 with fns := ("_law_bent", 2, F_law_bent) :: ("_law_wire", 2, F_law_wire) :: ("_law_is_wire", 2, F_law_is_wire) :: ("with_row", 2, Fwith_row) :: ("finish", 2, Ffinish) :: ("feed", 3, Ffeed) :: ("is_action", 3, Fis_action) :: cf3.fns }
theorem rd_is_wire : cSsF (cf4.at [] [] [] false) (cS (cf4.at [] [] [] false) N_is_wire 40 (defScope (top 24))) (defBody (top 24)) = some B_is_wire := by kernel_rfl
theorem sc_is_wire : scB N_is_wire ["board", "value"] (defScope (top 24)) = true := by kernel_rfl
theorem rd_across : cSsF (cf4.at [] [(182, 15)] [] false) (cS (cf4.at [] [(182, 15)] [] false) N_across 40 (defScope (top 45))) (defBody (top 45)) = some B_across := by kernel_rfl
theorem sc_across : scB N_across ["span", "many"] (defScope (top 45)) = true := by kernel_rfl
theorem rd_is_new : cSsF (cf4.at [] [] [] false) (cS (cf4.at [] [] [] false) N_is_new__2 40 (defScope (top 52))) (defBody (top 52)) = some B_is_new__2 := by kernel_rfl
theorem sc_is_new : scB N_is_new__2 ["spans", "stand"] (defScope (top 52)) = true := by kernel_rfl
theorem rd__law_is_board : cSsF (cf4.at [] [] [] false) (cS (cf4.at [] [] [] false) N__law_is_board 40 (defScope (top 67))) (defBody (top 67)) = some B__law_is_board := by kernel_rfl
theorem sc__law_is_board : scB N__law_is_board ["value"] (defScope (top 67)) = true := by kernel_rfl
theorem rd__law_board : cSsF (cf4.at [] [] [] false) (cS (cf4.at [] [] [] false) N__law_board 40 (defScope (top 70))) (defBody (top 70)) = some B__law_board := by kernel_rfl
theorem sc__law_board : scB N__law_board ["vat", "most"] (defScope (top 70)) = true := by kernel_rfl
def cf5 : Cf := { cf4 with fns := ("_law_board", 2, F_law_board) :: ("_law_is_board", 1, F_law_is_board) :: ("is_new", 2, Fis_new__2) :: ("across", 2, Facross) :: ("is_wire", 2, Fis_wire) :: cf4.fns }
theorem rd_is_board : cSsF (cf5.at [] [] [] false) (cS (cf5.at [] [] [] false) N_is_board 40 (defScope (top 25))) (defBody (top 25)) = some B_is_board := by kernel_rfl
theorem sc_is_board : scB N_is_board ["value"] (defScope (top 25)) = true := by kernel_rfl
theorem rd_all_items : cSsF (cf5.at [] [] [] false) (cS (cf5.at [] [] [] false) N_all_items 40 (defScope (top 53))) (defBody (top 53)) = some B_all_items := by kernel_rfl
theorem sc_all_items : scB N_all_items ["board", "index"] (defScope (top 53)) = true := by kernel_rfl
def cf6 : Cf := { cf5 with fns := ("all_items", 2, Fall_items) :: ("is_board", 1, Fis_board) :: cf5.fns }
theorem rd_need_board : cSsF (cf6.at [] [] [] false) (cS (cf6.at [] [] [] false) N_need_board 40 (defScope (top 26))) (defBody (top 26)) = some B_need_board := by kernel_rfl
theorem sc_need_board : scB N_need_board ["board"] (defScope (top 26)) = true := by kernel_rfl
def cf7 : Cf := { cf6 with fns := ("need_board", 1, Fneed_board) :: cf6.fns }
theorem rd_need_print : cSsF (cf7.at [] [] [] false) (cS (cf7.at [] [] [] false) N_need_print 40 (defScope (top 54))) (defBody (top 54)) = some B_need_print := by kernel_rfl
theorem sc_need_print : scB N_need_print ["board", "index"] (defScope (top 54)) = true := by kernel_rfl
def cf8 : Cf := { cf7 with fns := ("need_print", 2, Fneed_print) :: cf7.fns }
theorem rd_comes : cSsF (cf8.at [] [] [] false) (cS (cf8.at [] [] [] false) N_comes 40 (defScope (top 55))) (defBody (top 55)) = some B_comes := by kernel_rfl
theorem sc_comes : scB N_comes ["board", "index"] (defScope (top 55)) = true := by kernel_rfl
theorem rd_relations : cSsF (cf8.at [] [] [] false) (cS (cf8.at [] [] [] false) N_relations 40 (defScope (top 56))) (defBody (top 56)) = some B_relations := by kernel_rfl
theorem sc_relations : scB N_relations ["board", "index"] (defScope (top 56)) = true := by kernel_rfl
theorem rd_holds : cSsF (cf8.at [] [] [] false) (cS (cf8.at [] [] [] false) N_holds 40 (defScope (top 57))) (defBody (top 57)) = some B_holds := by kernel_rfl
theorem sc_holds : scB N_holds ["board", "index", "factors"] (defScope (top 57)) = true := by kernel_rfl
def cf9 : Cf := { cf8 with fns := ("holds", 3, Fholds) :: ("relations", 2, Frelations) :: ("comes", 2, Fcomes) :: cf8.fns }
def N__law_error_of : List Str := ["call", "board", "index"]
def B__law_error_of : Ss := (.cons (.ret (.err NMS (.dyn 0 cf9.fns (.cons (.var 1) (.cons (.var 2) .nil))))) .nil)
def F_law_error_of : Sem := run 3 3 B__law_error_of
theorem rd__law_error_of : cSsF (cf9.at [] [] [] true) (cS (cf9.at [] [] [] true) N__law_error_of 40 (defScope (top 75))) (defBody (top 75)) = some B__law_error_of := by kernel_rfl
theorem sc__law_error_of : scB N__law_error_of ["call", "board", "index"] (defScope (top 75)) = true := by kernel_rfl
def cf10 : Cf := { cf9 with fns := ("_law_error_of", 3, F_law_error_of) :: cf9.fns }
def N_law : List Str := ["script", "k", "vat", "board", "prints", "odd", "found", "index", "many", "some", "at"]
def B_law : Ss := (.cons (.for_ (.name 1) (.rng (.bi .max (.cons (.con (.int (6))) (.cons (.bi .min (.cons (.con (.int (14))) (.cons (.bi .len (.cons (.var 0) .nil)) .nil))) .nil)))) (.cons (.set (.name 2) (.call F_law_vat (.cons (.var 0) (.cons (.var 1) .nil)))) (.cons (.set (.name 3) (.call F_law_board (.cons (.var 2) (.cons (.con (.int (6))) .nil)))) (.cons (.set (.name 4) (.comp (.var 10) (.name 10) (.rng (.bi .len (.cons (.idx (.var 3) (.con (.int (2)))) .nil))) (.op .eq (.idx (.idx (.idx (.idx (.var 3) (.con (.int (2)))) (.var 10)) (.con (.int (2)))) (.con (.int (0)))) (.con (.str "print"))) [10])) (.cons (.for_ (.name 5) (.seq (.op .add (.lst (.cons (.con .non) (.cons (.neg (.con (.int (1)))) (.cons (.bi .len (.cons (.idx (.var 3) (.con (.int (2)))) .nil)) (.cons (.con (.bl true)) (.cons (.con (.str "0")) .nil)))))) (.comp (.var 10) (.name 10) (.rng (.bi .len (.cons (.idx (.var 3) (.con (.int (2)))) .nil))) (.op .nin (.var 10) (.var 4)) [10]))) (.cons (.set (.name 6) (.lst (.cons (.err NMS (.call Fcomes (.cons (.var 3) (.cons (.var 5) .nil)))) (.cons (.call F_law_error_of (.cons (.con (.glo "relations")) (.cons (.var 3) (.cons (.var 5) .nil)))) .nil)))) (.cons (.ite (.or_ (.op .ne (.var 6) (.op .mul (.lst (.cons (.con (.str "index value")) .nil)) (.con (.int (2))))) (.op .ne (.err NMS (.call Fholds (.cons (.var 3) (.cons (.var 5) (.cons (.con .non) .nil))))) (.con (.str "index value")))) (.cons (.ret (.con (.bl false))) .nil) .nil) .nil))) (.cons (.for_ (.name 7) (.seq (.var 4)) (.cons (.set (.name 8) (.bi .len (.cons (.idx (.idx (.idx (.idx (.var 3) (.con (.int (2)))) (.var 7)) (.con (.int (2)))) (.con (.int (1)))) .nil))) (.cons (.for_ (.name 5) (.seq (.lst (.cons (.con .non) (.cons (.op .mul (.lst (.cons (.con (.int (1))) .nil)) (.var 8)) (.cons (.op .mul (.tup (.cons (.con (.int (1))) .nil)) (.op .add (.var 8) (.con (.int (1))))) (.cons (.op .mul (.tup (.cons (.con (.int (1))) .nil)) (.op .sub (.var 8) (.con (.int (1))))) (.cons (.op .mul (.tup (.cons (.con (.bl true)) .nil)) (.var 8)) (.cons (.op .mul (.tup (.cons (.op .add (.op .pow (.con (.int (10))) (.con (.int (30)))) (.con (.int (1)))) .nil)) (.var 8)) .nil)))))))) (.cons (.ite (.op .ne (.err NMS (.call Fholds (.cons (.var 3) (.cons (.var 7) (.cons (.var 5) .nil))))) (.con (.str "factors value"))) (.cons (.ret (.con (.bl false))) .nil) .nil) .nil)) .nil))) (.cons (.for_ (.name 5) (.seq (.lst (.cons (.con .non) (.cons (.tup (.cons (.var 3) .nil)) (.cons (.slc (.var 3) .no (.yes (.con (.int (2))))) (.cons (.call F_law_bent (.cons (.var 2) (.cons (.var 3) .nil))) .nil)))))) (.cons (.ite (.and_ (.not_ (.call F_law_is_board (.cons (.var 5) .nil))) (.op .ne (.err NMS (.call Fholds (.cons (.var 5) (.cons (.con .non) (.cons (.con .non) .nil))))) (.con (.str "board value")))) (.cons (.ret (.con (.bl false))) .nil) .nil) (.cons (.ite (.and_ (.not_ (.call F_law_is_board (.cons (.var 5) .nil))) (.op .ne (.err NMS (.call Fcomes (.cons (.var 5) (.cons (.con .non) .nil)))) (.con (.str "board value")))) (.cons (.ret (.con (.bl false))) .nil) .nil) .nil))) .nil))))))) (.cons (.set (.name 9) (.tup (.cons (.con (.int (0))) (.cons (.con (.int (0))) (.cons (.tup (.cons (.tup (.cons (.con (.str "card")) (.cons (.con .non) (.cons (.tup (.cons (.con (.str "print")) (.cons (.tup (.cons (.con (.str "x")) (.cons (.con (.str "y")) .nil))) .nil))) .nil)))) .nil)) .nil))))) (.cons (.ret (.and_ (.not_ (.call Fholds (.cons (.var 9) (.cons (.con (.int (0))) (.cons (.tup (.cons (.op .pow (.con (.int (10))) (.con (.int (30)))) (.cons (.neg (.op .pow (.con (.int (10))) (.con (.int (30))))) .nil))) .nil))))) (.op .eq (.err NMS (.call Frelations (.cons (.var 9) (.cons (.con (.int (1))) .nil)))) (.con (.str "index value"))))) .nil)))
def Flaw : Sem := run 1 11 B_law
theorem rd_law : cSsF (cf10.at [] [] [] true) (cS (cf10.at [] [] [] true) N_law 40 (defScope (top 76))) (defBody (top 76)) = some B_law := by kernel_rfl
theorem sc_law : scB N_law ["script"] (defScope (top 76)) = true := by kernel_rfl
def gloL : List Str := [("CardError" : Str), ("InvalidBoard" : Str), ("InvalidRow" : Str), ("InvalidDeck" : Str), ("InvalidCard" : Str), ("InvalidPattern" : Str), ("InvalidForm" : Str), ("InvalidIndex" : Str), ("InvalidFactors" : Str), ("InvalidSeen" : Str), ("InvalidLevel" : Str), ("NoCard" : Str), ("NothingToUndo" : Str), ("TooMany" : Str), ("InvalidText" : Str), ("is_whole" : Str), ("is_word" : Str), ("is_source" : Str), ("is_printing" : Str), ("is_action" : Str), ("is_wire" : Str), ("is_board" : Str), ("need_board" : Str), ("need_wire" : Str), ("break_between" : Str), ("begin" : Str), ("number_of" : Str), ("with_item" : Str), ("is_done" : Str), ("done" : Str), ("passed" : Str), ("feed" : Str), ("finish" : Str), ("shortest" : Str), ("place_of" : Str), ("without" : Str), ("rest_of" : Str), ("with_row" : Str), ("plain" : Str), ("across" : Str)]
def gloL2 : List Str := [("next_cards" : Str), ("items_of" : Str), ("is_new" : Str), ("all_items" : Str), ("need_print" : Str), ("comes" : Str), ("relations" : Str), ("holds" : Str), ("_law_vat" : Str), ("_law_under" : Str), ("_law_some" : Str), ("_law_is_whole" : Str), ("_law_is_one_of" : Str), ("_law_is_from" : Str), ("_law_is_act" : Str), ("_law_is_wire" : Str), ("_law_is_board" : Str), ("_law_act" : Str), ("_law_wire" : Str), ("_law_board" : Str), ("_law_names" : Str), ("_law_error" : Str), ("_law_odd" : Str), ("_law_bent" : Str), ("_law_error_of" : Str), ("law" : Str)]
def gloA : List Str := gloL ++ gloL2
open He in
def fn0 : List He.DefD := [dfd "is_whole" (top 19), dfd "is_word" (top 20), dfd "is_source" (top 21), dfd "is_printing" (top 22), dfd "is_action" (top 23), dfd "is_wire" (top 24), dfd "is_board" (top 25), dfd "need_board" (top 26), dfd "need_wire" (top 27), dfd "break_between" (top 28), dfd "begin" (top 30), dfd "number_of" (top 31), dfd "with_item" (top 32), dfd "is_done" (top 33), dfd "done" (top 34), dfd "passed" (top 35), dfd "feed" (top 36), dfd "finish" (top 37), dfd "shortest" (top 39), dfd "place_of" (top 40), dfd "without" (top 41), dfd "rest_of" (top 42), dfd "with_row" (top 43), dfd "plain" (top 44), dfd "across" (top 45), dfd "next_cards" (top 48), dfd "items_of" (top 51), dfd "is_new" (top 52), dfd "all_items" (top 53), dfd "need_print" (top 54), dfd "comes" (top 55), dfd "relations" (top 56), dfd "holds" (top 57), dfd "_law_vat" (top 59), dfd "_law_under" (top 60), dfd "_law_some" (top 61), dfd "_law_is_whole" (top 62), dfd "_law_is_one_of" (top 63), dfd "_law_is_from" (top 64), dfd "_law_is_act" (top 65)]
def fn1 : List He.DefD := [dfd "_law_is_wire" (top 66), dfd "_law_is_board" (top 67), dfd "_law_act" (top 68), dfd "_law_wire" (top 69), dfd "_law_board" (top 70), dfd "_law_names" (top 71), dfd "_law_error" (top 72), dfd "_law_odd" (top 73), dfd "_law_bent" (top 74), dfd "_law_error_of" (top 75), dfd "law" (top 76)]
def fn : List He.DefD := fn0 ++ fn1
def fa : List He.Fa := gloA.map He.Fa.glo ++ (biNames.map He.Fa.free ++ excs.map He.Fa.exc)
def tf : List Str := ["_law_error_of", "law"]
def ex (K : PySem.W.Frag) : Bool := (cons.all fun p => conB K p) && ((lbl.all fun p => lblB K labL csL "CardError" p.1 p.2) && decide (tf.map fun x => (He.cT K (x, none)).2).Nodup)
abbrev R : PySem.W.OpenRow := PySem.W.OpenLaw.row PySem.Challenge.rw_allcards_k10_errors_of_relations
abbrev hk : PySem.W.Hook := He.hookX 5 fa fn [] (tf.map fun x => (x, none)) ex
def ob (s : PySem.W.SharedT) : He.AlX := He.obsX 5 fa fn [] (tf.map fun x => (x, none)) ex (HandSHeadRun.getT s)
theorem ob_eq (s : PySem.W.SharedT) : ob s = hk.obs s.abs   := He.obsX_eq (HandSHeadRun.getT_eq s)
def loose0 : List Str := [("CardError" : Str), ("InvalidBoard" : Str), ("InvalidRow" : Str), ("InvalidDeck" : Str), ("InvalidCard" : Str), ("InvalidPattern" : Str), ("InvalidForm" : Str), ("InvalidIndex" : Str), ("InvalidFactors" : Str), ("InvalidSeen" : Str), ("InvalidLevel" : Str), ("NoCard" : Str), ("NothingToUndo" : Str), ("TooMany" : Str), ("InvalidText" : Str), ("MOST_WIRES" : Str), ("TIMES" : Str), ("is_whole" : Str), ("is_word" : Str), ("is_source" : Str), ("is_printing" : Str), ("is_action" : Str), ("is_wire" : Str), ("is_board" : Str), ("need_board" : Str), ("need_wire" : Str), ("break_between" : Str), ("begin" : Str), ("number_of" : Str), ("with_item" : Str), ("is_done" : Str), ("done" : Str), ("passed" : Str), ("feed" : Str), ("finish" : Str), ("shortest" : Str), ("place_of" : Str), ("without" : Str), ("rest_of" : Str), ("with_row" : Str)]
def loose1 : List Str := [("plain" : Str), ("across" : Str), ("NUMBERS" : Str), ("next_cards" : Str), ("LARGE" : Str), ("items_of" : Str), ("is_new" : Str), ("all_items" : Str), ("need_print" : Str), ("comes" : Str), ("relations" : Str), ("holds" : Str), ("_law_vat" : Str), ("_law_under" : Str), ("_law_some" : Str), ("_law_is_whole" : Str), ("_law_is_one_of" : Str), ("_law_is_from" : Str), ("_law_is_act" : Str), ("_law_is_wire" : Str), ("_law_is_board" : Str), ("_law_act" : Str), ("_law_wire" : Str), ("_law_board" : Str), ("_law_names" : Str), ("_law_error" : Str), ("_law_odd" : Str), ("_law_bent" : Str), ("_law_error_of" : Str)]
def loose : List Str := loose0 ++ loose1
theorem run (w : World) : HandSHeadRun.RunEq R (PySem.W.view R.prog [76]) hk ob 6000 loose w := by
  intro os
  kernel_rfl
theorem memg {x : Str} (i : Nat) (h : gloA[i]? = some x) : He.Fa.glo x ∈ fa := List.mem_append_left _ (List.mem_map.mpr ⟨x, List.mem_of_getElem? h, rfl⟩)
theorem memb : ∀ x ∈ biNames, He.Fa.free x ∈ fa := fun x h => List.mem_append_right _ (List.mem_append_left _ (List.mem_map.mpr ⟨x, h, rfl⟩))
theorem meme : ∀ x ∈ excs, He.Fa.exc x ∈ fa := fun x h => List.mem_append_right _ (List.mem_append_right _ (List.mem_map.mpr ⟨x, h, rfl⟩))
theorem exc_glo : ∀ x ∈ excs, x ∈ gloA := by decide +kernel
theorem lbl_glo : ∀ p ∈ lbl, p.1 ∈ gloA := by decide +kernel
theorem facts {w : World} {K : PySem.W.Frag} {h : Heap} {mg : Str → Option Value} (X : K.In h) (G : h.Ns mainGlobals mg) (c : He.SaysD fa fn K) (hex : ex K = true) :
    ∃ fd, mg ("law" : Str) = some (.ref (He.ga K "law")) ∧ (∀ (s : Shared) (u : Value), BindsTo s fd ⟨[u], []⟩ [("script", u)]) ∧ ∀ base : Heap, (∀ y ∈ tf, LamX.TabB base mg (He.cT K (y, none)).1 (He.cT K (y, none)).2) → FnOk PW w K mg base (L2N.CX PW w) 117 (He.ga K "law") fd ["script"] (spF K mg (tabL w K tf) 1 Flaw) := by
  obtain ⟨hcon, hex⟩ := He.ba hex
  obtain ⟨hlbl, hnd⟩ := He.ba hex
  have hnd := of_decide_eq_true hnd
  obtain ⟨fd, FD⟩ := c.defs (List.mem_of_getElem? (l := fn) (i := 50) (a := dfd "law" (top 76)) rfl)
  have FD : FunD K "law" "law" (defArgs (top 76)) (defBody (top 76)) (defScope (top 76)) [] [] (He.ga K "law") fd := FD
  have hb : BindOk "law" "law" (defArgs (top 76)) (defBody (top 76)) (defScope (top 76)) ["script"] := fun _ _ _ _ _ _ us hl => match us, hl with | [_], _ => rfl
  refine ⟨fd, He.glo_ok X G (c.facts (memg 65 rfl)), fun s u => FD.bindsA (ps := ["script"]) hb s [u] rfl, fun base TB => ?_⟩
  have I : ErrI fa fn K cf0 := { x := "_law_error", nx := "_law_names", sx := top 72, sn := top 71, CE := "CardError", L := labL, cs := csL, lbl := lbl, hx := List.mem_of_getElem? (l := fn) (i := 46) rfl, hn := List.mem_of_getElem? (l := fn) (i := 45) rfl, gx := memg 61 rfl, gn := memg 60 rfl, gC := memg 0 rfl, gl := fun p hp => List.mem_append_left _ (List.mem_map.mpr ⟨p.1, lbl_glo p hp, rfl⟩), sc := by kernel_rfl, sc2 := by kernel_rfl, bx := (fun _ _ _ _ _ _ us hl => match us, hl with | [_], _ => rfl), bn := (fun _ _ _ _ _ _ us hl => match us, hl with | [_], _ => rfl), rx := by kernel_rfl, rn := by kernel_rfl, al := by kernel_rfl, z1 := by decide +kernel, z2 := by decide +kernel, m1 := memb _ (by decide +kernel), m2 := memb _ (by decide +kernel), ok := hlbl, eq := by kernel_rfl }
  have w0 : Wd PW w K mg base (tabL w K tf) cf0 0 := wd0 rfl X G c rfl memb hcon (fun x hx => ⟨meme x hx, List.mem_append_left _ (List.mem_map.mpr ⟨x, exc_glo x hx, rfl⟩)⟩) (I.wd X G c)
  have k_is_whole : Kn PW w K mg base (tabL w K tf) 3 "is_whole" 3 Fis_whole := kn_of (ps := ["value", "low", "high"]) w0 X G c (List.mem_of_getElem? (l := fn) (i := 0) (a := dfd "is_whole" (top 19)) rfl) (memg 15 rfl) (fun _ _ _ _ _ _ us hl => match us, hl with | [_, _, _], _ => rfl) sc_is_whole rd_is_whole rfl (fun z => by cases z)
  have k_is_word : Kn PW w K mg base (tabL w K tf) 3 "is_word" 2 Fis_word := kn_of (ps := ["value", "words"]) w0 X G c (List.mem_of_getElem? (l := fn) (i := 1) (a := dfd "is_word" (top 20)) rfl) (memg 16 rfl) (fun _ _ _ _ _ _ us hl => match us, hl with | [_, _], _ => rfl) sc_is_word rd_is_word rfl (fun z => by cases z)
  have k_break_between : Kn PW w K mg base (tabL w K tf) 3 "break_between" 2 Fbreak_between := kn_of (ps := ["one", "other"]) w0 X G c (List.mem_of_getElem? (l := fn) (i := 9) (a := dfd "break_between" (top 28)) rfl) (memg 24 rfl) (fun _ _ _ _ _ _ us hl => match us, hl with | [_, _], _ => rfl) sc_break_between rd_break_between rfl (fun z => by cases z)
  have k_begin : Kn PW w K mg base (tabL w K tf) 3 "begin" 1 Fbegin := kn_of (ps := ["board"]) w0 X G c (List.mem_of_getElem? (l := fn) (i := 10) (a := dfd "begin" (top 30)) rfl) (memg 25 rfl) (fun _ _ _ _ _ _ us hl => match us, hl with | [_], _ => rfl) sc_begin rd_begin rfl (fun z => by cases z)
  have k_number_of : Kn PW w K mg base (tabL w K tf) 3 "number_of" 3 Fnumber_of := kn_of (ps := ["counters", "card", "source"]) w0 X G c (List.mem_of_getElem? (l := fn) (i := 11) (a := dfd "number_of" (top 31)) rfl) (memg 26 rfl) (fun _ _ _ _ _ _ us hl => match us, hl with | [_, _, _], _ => rfl) sc_number_of rd_number_of rfl (fun z => by cases z)
  have k_with_item : Kn PW w K mg base (tabL w K tf) 3 "with_item" 3 Fwith_item := kn_of (ps := ["row", "at", "item"]) w0 X G c (List.mem_of_getElem? (l := fn) (i := 12) (a := dfd "with_item" (top 32)) rfl) (memg 27 rfl) (fun _ _ _ _ _ _ us hl => match us, hl with | [_, _, _], _ => rfl) sc_with_item rd_with_item rfl (fun z => by cases z)
  have k_is_done : Kn PW w K mg base (tabL w K tf) 3 "is_done" 2 Fis_done := kn_of (ps := ["switches", "wire"]) w0 X G c (List.mem_of_getElem? (l := fn) (i := 13) (a := dfd "is_done" (top 33)) rfl) (memg 28 rfl) (fun _ _ _ _ _ _ us hl => match us, hl with | [_, _], _ => rfl) sc_is_done rd_is_done rfl (fun z => by cases z)
  have k_shortest : Kn PW w K mg base (tabL w K tf) 3 "shortest" 1 Fshortest := kn_of (ps := ["row"]) w0 X G c (List.mem_of_getElem? (l := fn) (i := 18) (a := dfd "shortest" (top 39)) rfl) (memg 33 rfl) (fun _ _ _ _ _ _ us hl => match us, hl with | [_], _ => rfl) sc_shortest rd_shortest rfl (fun z => by cases z)
  have k_place_of : Kn PW w K mg base (tabL w K tf) 3 "place_of" 1 Fplace_of := kn_of (ps := ["row"]) w0 X G c (List.mem_of_getElem? (l := fn) (i := 19) (a := dfd "place_of" (top 40)) rfl) (memg 34 rfl) (fun _ _ _ _ _ _ us hl => match us, hl with | [_], _ => rfl) sc_place_of rd_place_of rfl (fun z => by cases z)
  have k_next_cards : Kn PW w K mg base (tabL w K tf) 3 "next_cards" 1 Fnext_cards := kn_of (ps := ["deck"]) w0 X G c (List.mem_of_getElem? (l := fn) (i := 25) (a := dfd "next_cards" (top 48)) rfl) (memg 40 rfl) (fun _ _ _ _ _ _ us hl => match us, hl with | [_], _ => rfl) sc_next_cards rd_next_cards rfl (fun z => by cases z)
  have k_items_of : Kn PW w K mg base (tabL w K tf) 3 "items_of" 2 Fitems_of := kn_of (ps := ["printed", "index"]) w0 X G c (List.mem_of_getElem? (l := fn) (i := 26) (a := dfd "items_of" (top 51)) rfl) (memg 41 rfl) (fun _ _ _ _ _ _ us hl => match us, hl with | [_, _], _ => rfl) sc_items_of rd_items_of rfl (fun z => by cases z)
  have k__law_vat : Kn PW w K mg base (tabL w K tf) 3 "_law_vat" 2 F_law_vat := kn_of (ps := ["script", "k"]) w0 X G c (List.mem_of_getElem? (l := fn) (i := 33) (a := dfd "_law_vat" (top 59)) rfl) (memg 48 rfl) (fun _ _ _ _ _ _ us hl => match us, hl with | [_, _], _ => rfl) sc__law_vat rd__law_vat rfl (fun z => by cases z)
  have k__law_under : Kn PW w K mg base (tabL w K tf) 3 "_law_under" 2 F_law_under := kn_of (ps := ["vat", "many"]) w0 X G c (List.mem_of_getElem? (l := fn) (i := 34) (a := dfd "_law_under" (top 60)) rfl) (memg 49 rfl) (fun _ _ _ _ _ _ us hl => match us, hl with | [_, _], _ => rfl) sc__law_under rd__law_under rfl (fun z => by cases z)
  have k__law_is_whole : Kn PW w K mg base (tabL w K tf) 3 "_law_is_whole" 3 F_law_is_whole := kn_of (ps := ["value", "low", "high"]) w0 X G c (List.mem_of_getElem? (l := fn) (i := 36) (a := dfd "_law_is_whole" (top 62)) rfl) (memg 51 rfl) (fun _ _ _ _ _ _ us hl => match us, hl with | [_, _, _], _ => rfl) sc__law_is_whole rd__law_is_whole rfl (fun z => by cases z)
  have k__law_is_one_of : Kn PW w K mg base (tabL w K tf) 3 "_law_is_one_of" 2 F_law_is_one_of := kn_of (ps := ["value", "some"]) w0 X G c (List.mem_of_getElem? (l := fn) (i := 37) (a := dfd "_law_is_one_of" (top 63)) rfl) (memg 52 rfl) (fun _ _ _ _ _ _ us hl => match us, hl with | [_, _], _ => rfl) sc__law_is_one_of rd__law_is_one_of rfl (fun z => by cases z)
  have w1 : Wd PW w K mg base (tabL w K tf) cf1 3 := (((((((((((((((w0.add (by decide) k_is_whole).add (Nat.le_refl _) k_is_word).add (Nat.le_refl _) k_break_between).add (Nat.le_refl _) k_begin).add (Nat.le_refl _) k_number_of).add (Nat.le_refl _) k_with_item).add (Nat.le_refl _) k_is_done).add (Nat.le_refl _) k_shortest).add (Nat.le_refl _) k_place_of).add (Nat.le_refl _) k_next_cards).add (Nat.le_refl _) k_items_of).add (Nat.le_refl _) k__law_vat).add (Nat.le_refl _) k__law_under).add (Nat.le_refl _) k__law_is_whole).add (Nat.le_refl _) k__law_is_one_of)
  have k_is_source : Kn PW w K mg base (tabL w K tf) 6 "is_source" 3 Fis_source := kn_of (ps := ["board", "when", "value"]) w1 X G c (List.mem_of_getElem? (l := fn) (i := 2) (a := dfd "is_source" (top 21)) rfl) (memg 17 rfl) (fun _ _ _ _ _ _ us hl => match us, hl with | [_, _, _], _ => rfl) sc_is_source rd_is_source rfl (fun z => by cases z)
  have k_need_wire : Kn PW w K mg base (tabL w K tf) 6 "need_wire" 2 Fneed_wire := kn_of (ps := ["board", "index"]) w1 X G c (List.mem_of_getElem? (l := fn) (i := 8) (a := dfd "need_wire" (top 27)) rfl) (memg 23 rfl) (fun _ _ _ _ _ _ us hl => match us, hl with | [_, _], _ => rfl) sc_need_wire rd_need_wire rfl (fun z => by cases z)
  have k_done : Kn PW w K mg base (tabL w K tf) 6 "done" 4 Fdone := kn_of (ps := ["counters", "switches", "action", "card"]) w1 X G c (List.mem_of_getElem? (l := fn) (i := 14) (a := dfd "done" (top 34)) rfl) (memg 29 rfl) (fun _ _ _ _ _ _ us hl => match us, hl with | [_, _, _, _], _ => rfl) sc_done rd_done rfl (fun z => by cases z)
  have k_without : Kn PW w K mg base (tabL w K tf) 6 "without" 2 Fwithout := kn_of (ps := ["row", "other"]) w1 X G c (List.mem_of_getElem? (l := fn) (i := 20) (a := dfd "without" (top 41)) rfl) (memg 35 rfl) (fun _ _ _ _ _ _ us hl => match us, hl with | [_, _], _ => rfl) sc_without rd_without rfl (fun z => by cases z)
  have k__law_some : Kn PW w K mg base (tabL w K tf) 6 "_law_some" 2 F_law_some := kn_of (ps := ["vat", "things"]) w1 X G c (List.mem_of_getElem? (l := fn) (i := 35) (a := dfd "_law_some" (top 61)) rfl) (memg 50 rfl) (fun _ _ _ _ _ _ us hl => match us, hl with | [_, _], _ => rfl) sc__law_some rd__law_some rfl (fun z => by cases z)
  have k__law_is_from : Kn PW w K mg base (tabL w K tf) 6 "_law_is_from" 3 F_law_is_from := kn_of (ps := ["frame", "when", "value"]) w1 X G c (List.mem_of_getElem? (l := fn) (i := 38) (a := dfd "_law_is_from" (top 64)) rfl) (memg 53 rfl) (fun _ _ _ _ _ _ us hl => match us, hl with | [_, _, _], _ => rfl) sc__law_is_from rd__law_is_from rfl (fun z => by cases z)
  have w2 : Wd PW w K mg base (tabL w K tf) cf2 6 := ((((((w1.add (by decide) k_is_source).add (Nat.le_refl _) k_need_wire).add (Nat.le_refl _) k_done).add (Nat.le_refl _) k_without).add (Nat.le_refl _) k__law_some).add (Nat.le_refl _) k__law_is_from)
  have k_is_printing : Kn PW w K mg base (tabL w K tf) 21 "is_printing" 3 Fis_printing := (kn_of (ps := ["board", "when", "value"]) w2 X G c (List.mem_of_getElem? (l := fn) (i := 3) (a := dfd "is_printing" (top 22)) rfl) (memg 18 rfl) (fun _ _ _ _ _ _ us hl => match us, hl with | [_, _, _], _ => rfl) sc_is_printing rd_is_printing rfl (fun z => by cases z)).mono (by decide)
  have k_passed : Kn PW w K mg base (tabL w K tf) 21 "passed" 5 Fpassed := (kn_of (ps := ["board", "times", "counters", "switches", "card"]) w2 X G c (List.mem_of_getElem? (l := fn) (i := 15) (a := dfd "passed" (top 35)) rfl) (memg 30 rfl) (fun _ _ _ _ _ _ us hl => match us, hl with | [_, _, _, _, _], _ => rfl) sc_passed rd_passed rfl (fun z => by cases z)).mono (by decide)
  have k_rest_of : Kn PW w K mg base (tabL w K tf) 21 "rest_of" 2 Frest_of := (kn_of (ps := ["span", "row"]) w2 X G c (List.mem_of_getElem? (l := fn) (i := 21) (a := dfd "rest_of" (top 42)) rfl) (memg 36 rfl) (fun _ _ _ _ _ _ us hl => match us, hl with | [_, _], _ => rfl) sc_rest_of rd_rest_of rfl (fun z => by cases z)).mono (by decide)
  have k_plain : Kn PW w K mg base (tabL w K tf) 21 "plain" 1 Fplain := (kn_of (ps := ["span"]) w2 X G c (List.mem_of_getElem? (l := fn) (i := 23) (a := dfd "plain" (top 44)) rfl) (memg 38 rfl) (fun _ _ _ _ _ _ us hl => match us, hl with | [_], _ => rfl) sc_plain rd_plain rfl (fun z => by cases z)).mono (by decide)
  have k__law_is_act : Kn PW w K mg base (tabL w K tf) 21 "_law_is_act" 3 F_law_is_act := (kn_of (ps := ["frame", "when", "value"]) w2 X G c (List.mem_of_getElem? (l := fn) (i := 39) (a := dfd "_law_is_act" (top 65)) rfl) (memg 54 rfl) (fun _ _ _ _ _ _ us hl => match us, hl with | [_, _, _], _ => rfl) sc__law_is_act rd__law_is_act rfl (fun z => by cases z)).mono (by decide)
  have k__law_act : Kn PW w K mg base (tabL w K tf) 21 "_law_act" 3 F_law_act := (kn_of (ps := ["vat", "frame", "when"]) w2 X G c (List.mem_of_getElem? (l := fn) (i := 42) (a := dfd "_law_act" (top 68)) rfl) (memg 57 rfl) (fun _ _ _ _ _ _ us hl => match us, hl with | [_, _, _], _ => rfl) sc__law_act rd__law_act rfl (fun z => by cases z)).mono (by decide)
  have kr__law_odd : ∀ n, Kn PW w K mg base (tabL w K tf) (9 + 3 * n) "_law_odd" 2 (R__law_odd n) := by
    intro n
    induction n with
    | zero => exact kn_of (ps := ["vat", "depth"]) w2 X G c (List.mem_of_getElem? (l := fn) (i := 47) (a := dfd "_law_odd" (top 73)) rfl) (memg 62 rfl) (fun _ _ _ _ _ _ us hl => match us, hl with | [_, _], _ => rfl) sc__law_odd rd0__law_odd rfl (fun z => by cases z)
    | succ n ih => exact kn_of (ps := ["vat", "depth"]) (w2.add (by omega) ih) X G c (List.mem_of_getElem? (l := fn) (i := 47) (a := dfd "_law_odd" (top 73)) rfl) (memg 62 rfl) (fun _ _ _ _ _ _ us hl => match us, hl with | [_, _], _ => rfl) sc__law_odd (rd__law_odd _) rfl (fun z => by cases z)
  have k__law_odd : Kn PW w K mg base (tabL w K tf) 21 "_law_odd" 2 F_law_odd := (kr__law_odd 4).mono (by decide)
  have w3 : Wd PW w K mg base (tabL w K tf) cf3 21 := (((((((w2.add (by decide) k_is_printing).add (Nat.le_refl _) k_passed).add (Nat.le_refl _) k_rest_of).add (Nat.le_refl _) k_plain).add (Nat.le_refl _) k__law_is_act).add (Nat.le_refl _) k__law_act).add (Nat.le_refl _) k__law_odd)
  have k_is_action : Kn PW w K mg base (tabL w K tf) 96 "is_action" 3 Fis_action := (kn_of (ps := ["board", "when", "value"]) w3 X G c (List.mem_of_getElem? (l := fn) (i := 4) (a := dfd "is_action" (top 23)) rfl) (memg 19 rfl) (fun _ _ _ _ _ _ us hl => match us, hl with | [_, _, _], _ => rfl) sc_is_action rd_is_action rfl (fun z => by cases z)).mono (by decide)
  have k_feed : Kn PW w K mg base (tabL w K tf) 96 "feed" 3 Ffeed := (kn_of (ps := ["board", "stand", "card"]) w3 X G c (List.mem_of_getElem? (l := fn) (i := 16) (a := dfd "feed" (top 36)) rfl) (memg 31 rfl) (fun _ _ _ _ _ _ us hl => match us, hl with | [_, _, _], _ => rfl) sc_feed rd_feed rfl (fun z => by cases z)).mono (by decide)
  have k_finish : Kn PW w K mg base (tabL w K tf) 96 "finish" 2 Ffinish := (kn_of (ps := ["board", "stand"]) w3 X G c (List.mem_of_getElem? (l := fn) (i := 17) (a := dfd "finish" (top 37)) rfl) (memg 32 rfl) (fun _ _ _ _ _ _ us hl => match us, hl with | [_, _], _ => rfl) sc_finish rd_finish rfl (fun z => by cases z)).mono (by decide)
  have k_with_row : Kn PW w K mg base (tabL w K tf) 96 "with_row" 2 Fwith_row := (kn_of (ps := ["span", "row"]) w3 X G c (List.mem_of_getElem? (l := fn) (i := 22) (a := dfd "with_row" (top 43)) rfl) (memg 37 rfl) (fun _ _ _ _ _ _ us hl => match us, hl with | [_, _], _ => rfl) sc_with_row rd_with_row rfl (fun z => by cases z)).mono (by decide)
  have k__law_is_wire : Kn PW w K mg base (tabL w K tf) 96 "_law_is_wire" 2 F_law_is_wire := (kn_of (ps := ["frame", "value"]) w3 X G c (List.mem_of_getElem? (l := fn) (i := 40) (a := dfd "_law_is_wire" (top 66)) rfl) (memg 55 rfl) (fun _ _ _ _ _ _ us hl => match us, hl with | [_, _], _ => rfl) sc__law_is_wire rd__law_is_wire rfl (fun z => by cases z)).mono (by decide)
  have k__law_wire : Kn PW w K mg base (tabL w K tf) 96 "_law_wire" 2 F_law_wire := (kn_of (ps := ["vat", "frame"]) w3 X G c (List.mem_of_getElem? (l := fn) (i := 43) (a := dfd "_law_wire" (top 69)) rfl) (memg 58 rfl) (fun _ _ _ _ _ _ us hl => match us, hl with | [_, _], _ => rfl) sc__law_wire rd__law_wire rfl (fun z => by cases z)).mono (by decide)
  have kr__law_bent : ∀ n, Kn PW w K mg base (tabL w K tf) (24 + 3 * n) "_law_bent" 2 (R__law_bent n) := by
    intro n
    induction n with
    | zero => exact kn_of (ps := ["vat", "value"]) w3 X G c (List.mem_of_getElem? (l := fn) (i := 48) (a := dfd "_law_bent" (top 74)) rfl) (memg 63 rfl) (fun _ _ _ _ _ _ us hl => match us, hl with | [_, _], _ => rfl) sc__law_bent rd0__law_bent rfl (fun z => by cases z)
    | succ n ih => exact kn_of (ps := ["vat", "value"]) (w3.add (by omega) ih) X G c (List.mem_of_getElem? (l := fn) (i := 48) (a := dfd "_law_bent" (top 74)) rfl) (memg 63 rfl) (fun _ _ _ _ _ _ us hl => match us, hl with | [_, _], _ => rfl) sc__law_bent (rd__law_bent _) rfl (fun z => by cases z)
  have k__law_bent : Kn PW w K mg base (tabL w K tf) 96 "_law_bent" 2 F_law_bent := (kr__law_bent 24).mono (by decide)
  have w4 : Wd PW w K mg base (tabL w K tf) cf4 96 := (((((((w3.add (by decide) k_is_action).add (Nat.le_refl _) k_feed).add (Nat.le_refl _) k_finish).add (Nat.le_refl _) k_with_row).add (Nat.le_refl _) k__law_is_wire).add (Nat.le_refl _) k__law_wire).add (Nat.le_refl _) k__law_bent)
  have k_is_wire : Kn PW w K mg base (tabL w K tf) 99 "is_wire" 2 Fis_wire := kn_of (ps := ["board", "value"]) w4 X G c (List.mem_of_getElem? (l := fn) (i := 5) (a := dfd "is_wire" (top 24)) rfl) (memg 20 rfl) (fun _ _ _ _ _ _ us hl => match us, hl with | [_, _], _ => rfl) sc_is_wire rd_is_wire rfl (fun z => by cases z)
  have k_across : Kn PW w K mg base (tabL w K tf) 99 "across" 2 Facross := kn_of (ps := ["span", "many"]) w4 X G c (List.mem_of_getElem? (l := fn) (i := 24) (a := dfd "across" (top 45)) rfl) (memg 39 rfl) (fun _ _ _ _ _ _ us hl => match us, hl with | [_, _], _ => rfl) sc_across rd_across rfl (fun z => by cases z)
  have k_is_new : Kn PW w K mg base (tabL w K tf) 99 "is_new" 2 Fis_new__2 := kn_of (ps := ["spans", "stand"]) w4 X G c (List.mem_of_getElem? (l := fn) (i := 27) (a := dfd "is_new" (top 52)) rfl) (memg 42 rfl) (fun _ _ _ _ _ _ us hl => match us, hl with | [_, _], _ => rfl) sc_is_new rd_is_new rfl (fun z => by cases z)
  have k__law_is_board : Kn PW w K mg base (tabL w K tf) 99 "_law_is_board" 1 F_law_is_board := kn_of (ps := ["value"]) w4 X G c (List.mem_of_getElem? (l := fn) (i := 41) (a := dfd "_law_is_board" (top 67)) rfl) (memg 56 rfl) (fun _ _ _ _ _ _ us hl => match us, hl with | [_], _ => rfl) sc__law_is_board rd__law_is_board rfl (fun z => by cases z)
  have k__law_board : Kn PW w K mg base (tabL w K tf) 99 "_law_board" 2 F_law_board := kn_of (ps := ["vat", "most"]) w4 X G c (List.mem_of_getElem? (l := fn) (i := 44) (a := dfd "_law_board" (top 70)) rfl) (memg 59 rfl) (fun _ _ _ _ _ _ us hl => match us, hl with | [_, _], _ => rfl) sc__law_board rd__law_board rfl (fun z => by cases z)
  have w5 : Wd PW w K mg base (tabL w K tf) cf5 99 := (((((w4.add (by decide) k_is_wire).add (Nat.le_refl _) k_across).add (Nat.le_refl _) k_is_new).add (Nat.le_refl _) k__law_is_board).add (Nat.le_refl _) k__law_board)
  have k_is_board : Kn PW w K mg base (tabL w K tf) 102 "is_board" 1 Fis_board := kn_of (ps := ["value"]) w5 X G c (List.mem_of_getElem? (l := fn) (i := 6) (a := dfd "is_board" (top 25)) rfl) (memg 21 rfl) (fun _ _ _ _ _ _ us hl => match us, hl with | [_], _ => rfl) sc_is_board rd_is_board rfl (fun z => by cases z)
  have k_all_items : Kn PW w K mg base (tabL w K tf) 102 "all_items" 2 Fall_items := kn_of (ps := ["board", "index"]) w5 X G c (List.mem_of_getElem? (l := fn) (i := 28) (a := dfd "all_items" (top 53)) rfl) (memg 43 rfl) (fun _ _ _ _ _ _ us hl => match us, hl with | [_, _], _ => rfl) sc_all_items rd_all_items rfl (fun z => by cases z)
  have w6 : Wd PW w K mg base (tabL w K tf) cf6 102 := ((w5.add (by decide) k_is_board).add (Nat.le_refl _) k_all_items)
  have k_need_board : Kn PW w K mg base (tabL w K tf) 105 "need_board" 1 Fneed_board := kn_of (ps := ["board"]) w6 X G c (List.mem_of_getElem? (l := fn) (i := 7) (a := dfd "need_board" (top 26)) rfl) (memg 22 rfl) (fun _ _ _ _ _ _ us hl => match us, hl with | [_], _ => rfl) sc_need_board rd_need_board rfl (fun z => by cases z)
  have w7 : Wd PW w K mg base (tabL w K tf) cf7 105 := (w6.add (by decide) k_need_board)
  have k_need_print : Kn PW w K mg base (tabL w K tf) 108 "need_print" 2 Fneed_print := kn_of (ps := ["board", "index"]) w7 X G c (List.mem_of_getElem? (l := fn) (i := 29) (a := dfd "need_print" (top 54)) rfl) (memg 44 rfl) (fun _ _ _ _ _ _ us hl => match us, hl with | [_, _], _ => rfl) sc_need_print rd_need_print rfl (fun z => by cases z)
  have w8 : Wd PW w K mg base (tabL w K tf) cf8 108 := (w7.add (by decide) k_need_print)
  have k_comes : Kn PW w K mg base (tabL w K tf) 111 "comes" 2 Fcomes := kn_of (ps := ["board", "index"]) w8 X G c (List.mem_of_getElem? (l := fn) (i := 30) (a := dfd "comes" (top 55)) rfl) (memg 45 rfl) (fun _ _ _ _ _ _ us hl => match us, hl with | [_, _], _ => rfl) sc_comes rd_comes rfl (fun z => by cases z)
  have k_relations : Kn PW w K mg base (tabL w K tf) 111 "relations" 2 Frelations := kn_of (ps := ["board", "index"]) w8 X G c (List.mem_of_getElem? (l := fn) (i := 31) (a := dfd "relations" (top 56)) rfl) (memg 46 rfl) (fun _ _ _ _ _ _ us hl => match us, hl with | [_, _], _ => rfl) sc_relations rd_relations rfl (fun z => by cases z)
  have k_holds : Kn PW w K mg base (tabL w K tf) 111 "holds" 3 Fholds := kn_of (ps := ["board", "index", "factors"]) w8 X G c (List.mem_of_getElem? (l := fn) (i := 32) (a := dfd "holds" (top 57)) rfl) (memg 47 rfl) (fun _ _ _ _ _ _ us hl => match us, hl with | [_, _, _], _ => rfl) sc_holds rd_holds rfl (fun z => by cases z)
  have w9 : Wd PW w K mg base (tabL w K tf) cf9 111 := (((w8.add (by decide) k_comes).add (Nat.le_refl _) k_relations).add (Nat.le_refl _) k_holds)
  have k__law_error_of : Kn PW w K mg base (tabL w K tf) 114 "_law_error_of" 3 F_law_error_of := kn_of (ps := ["call", "board", "index"]) w9 X G c (List.mem_of_getElem? (l := fn) (i := 49) (a := dfd "_law_error_of" (top 75)) rfl) (memg 64 rfl) (fun _ _ _ _ _ _ us hl => match us, hl with | [_, _, _], _ => rfl) sc__law_error_of rd__law_error_of rfl (fun _ fd FD => lamD_of (List.mem_of_getElem? (l := tf) (i := 0) rfl) hnd TB fd FD)
  have w10 : Wd PW w K mg base (tabL w K tf) cf10 114 := (w9.add (by decide) k__law_error_of)
  exact kn_law w10 c FD sc_law rd_law rfl (fun _ => lamD_of (List.mem_of_getElem? (l := tf) (i := 1) rfl) hnd TB fd FD)
theorem hold (hF : ∀ ns : List Int, ns.length ≤ 63 → (∀ z ∈ ns, Builtin.Int.intBits z ≤ 1048576) → ∃ μ, Flaw [.scr ns] [] = some (.ok (.bl true), μ)) : PySem.Challenge.rw_allcards_k10_errors_of_relations.Holds := by
  open PySem.W PySem.Calls in
  w_on; o_law
  refine HandSHeadRun.head_any (r := PySem.W.OpenLaw.row PySem.Challenge.rw_allcards_k10_errors_of_relations) (q := PySem.W.view (PySem.W.OpenLaw.row PySem.Challenge.rw_allcards_k10_errors_of_relations).prog [76]) (H := hk) (ob := ob) (M := 6000) (loose := loose) (d := HandSHeadRun.topDef (PySem.W.OpenLaw.row PySem.Challenge.rw_allcards_k10_errors_of_relations).prog 76) (kwd := []) ob_eq
    (by kernel_rfl) (fun s => by kernel_rfl) run (by kernel_rfl) (by kernel_rfl) (by kernel_rfl) (by rfl) (by first | assumption | decide +kernel) (by decide +kernel) ⟨rfl, rfl, rfl, rfl, rfl, by decide +kernel⟩ ?hw ?hc
  case hw => w_witness2
  case hc =>
    exact walk_X (dn := 5) (l := PySem.Challenge.rw_allcards_k10_errors_of_relations) (n := 63) (k := 117) (x := "script") (lx := "law") (tf := tf) (ex := ex) (fa := fa) (fn := fn) (F := Flaw) rfl (by decide) (by kernel_rfl) (by kernel_rfl) ⟨rfl, by decide, by decide⟩ (fun w K h mg X G c hex => facts X G c hex) hF
end K10
set_option Elab.async false
set_option linter.all false
set_option maxRecDepth 100000
set_option maxHeartbeats 4000000
/-! Lk10a: law k10: what is refused. -/
namespace K10
open PySem L2 Mi Pg Ev Dr Mm Kv
theorem atI_nat {α : Type} {xs : List α} {i : Nat} {x : α} (h : xs[i]? = some x) : L2.atI xs (i : Int) = some x := by
  obtain ⟨hl, _⟩ := List.getElem?_eq_some_iff.mp h
  unfold L2.atI L2.ixN
  rw [if_pos (by omega), if_pos (by omega), Option.bind_some]
  simpa using h
def isP : Dr.Act → Bool
  | .print _ => true
  | _ => false
def hdA : Dr.Act → Str
  | .add l _ _ => if l = true then "less" else "add"
  | .clear _ => "clear"
  | .set _ _ => "set"
  | .print _ => "print"
def pB (b : Board) (i : Nat) : Bool := match b.ws[i]? with
  | some w => isP w.act
  | none => false
theorem lab_index : (NMS.lookup ("InvalidIndex" : Str)).map D.str = some (.str "index value") := by kernel_rfl
theorem lab_fac : (NMS.lookup ("InvalidFactors" : Str)).map D.str = some (.str "factors value") := by kernel_rfl
theorem lab_board : (NMS.lookup ("InvalidBoard" : Str)).map D.str = some (.str "board value") := by kernel_rfl
theorem lk_rel : cf9.fns.lookup ("relations" : Str) = some (2, Pg.Frelations) := by kernel_rfl
section
variable {μ : List Mo}
theorem q_index : eqD μ (.str "index value") (.str "index value") = some true := by kernel_rfl
theorem q_fac : eqD μ (.str "factors value") (.str "factors value") = some true := by kernel_rfl
theorem q_board : eqD μ (.str "board value") (.str "board value") = some true := by kernel_rfl
theorem q_two : eqD μ (.lst [.str "index value", .str "index value"]) (.lst [.str "index value", .str "index value"]) = some true := by kernel_rfl
theorem mul2 : mulD (.lst [.str "index value"]) (.int 2) = some (.lst [.str "index value", .str "index value"]) := by kernel_rfl
theorem act_hd (a : Dr.Act) : ixD μ a.d (.int 0) = some (.str (hdA a)) := by
  cases a <;> simp [Dr.Act.d, hdA]
theorem hd_eq (a : Dr.Act) : eqD μ (.str (hdA a)) (.str "print") = some (isP a) := by
  cases a with
  | add l s i => cases l <;> kernel_rfl
  | _ => kernel_rfl
theorem at_wire {b : Board} {i : Nat} {w : Wire} (h : b.ws[i]? = some w) : L2.atI (b.ws.map Wire.d) (i : Int) = some w.d := atI_nat (by simp [h])
theorem wire2 (w : Wire) : ixD μ w.d (.int 2) = some w.act.d := by simp [Wire.d]
theorem need_wire_no {b : Board} {d : D} {n : Nat} (ok : okN n d = true) (h : wholeB 0 ((b.ws.length : Int) - 1) d = false) : Fneed_wire [b.d, d] μ = some (.error ("InvalidIndex", none), μ) := by
  have := whole_B (μ := μ) ok (lo := 0) (hi := (b.ws.length : Int) - 1)
  rw [h] at this
  simp [Fneed_wire, B_need_wire, go, Board.d, this]
theorem need_wire_yes {b : Board} {i : Nat} (h : i < b.ws.length) : Fneed_wire [b.d, .int i] μ = some (.ok .non, μ) := by
  have := whole_B (μ := μ) (n := 1) (d := .int i) rfl (lo := 0) (hi := (b.ws.length : Int) - 1)
  rw [show wholeB 0 ((b.ws.length : Int) - 1) (.int i) = true by simp [wholeB]; omega] at this
  simp [Fneed_wire, B_need_wire, go, Board.d, this]
def BadIx (b : Board) (d : D) : Prop := (∃ n, okN n d = true) ∧ (wholeB 0 ((b.ws.length : Int) - 1) d = false ∨ ∃ (i : Nat) (w : Wire), d = .int i ∧ b.ws[i]? = some w ∧ isP w.act = false)
theorem need_print_no {b : Board} (hb : b.ok) {d : D} (h : BadIx b d) : Fneed_print [b.d, d] μ = some (.error ("InvalidIndex", none), μ) := by
  obtain ⟨⟨n, ok⟩, h | ⟨i, w, rfl, hi, hp⟩⟩ := h
  · simp [Fneed_print, B_need_print, go, need_board_ok hb, need_wire_no ok h]
  · have hl : i < b.ws.length := (List.getElem?_eq_some_iff.mp hi).1
    have e1 := need_wire_yes (μ := μ) hl
    have e2 := at_wire hi
    have e3 := wire2 (μ := μ) w
    have e4 := act_hd (μ := μ) w.act
    have e5 := hd_eq (μ := μ) w.act
    rw [hp] at e5
    have e0 := need_board_ok (μ := μ) hb
    simp only [Board.d] at e0 e1 ⊢
    simp [Fneed_print, B_need_print, go, e0, e1, e2, e3, e4, e5]
theorem need_print_yes {b : Board} (hb : b.ok) {i : Nat} {w : Wire} (hi : b.ws[i]? = some w) (hp : isP w.act = true) : Fneed_print [b.d, .int i] μ = some (.ok .non, μ) := by
  have hl : i < b.ws.length := (List.getElem?_eq_some_iff.mp hi).1
  have e1 := need_wire_yes (μ := μ) hl
  have e2 := at_wire hi
  have e3 := wire2 (μ := μ) w
  have e4 := act_hd (μ := μ) w.act
  have e5 := hd_eq (μ := μ) w.act
  rw [hp] at e5
  have e0 := need_board_ok (μ := μ) hb
  simp only [Board.d] at e0 e1 ⊢
  simp [Fneed_print, B_need_print, go, e0, e1, e2, e3, e4, e5]
theorem need_print_nob {d : D} (h : Fis_board [d] μ = some (.ok (.bl false), μ)) {x : D} : Fneed_print [d, x] μ = some (.error ("InvalidBoard", none), μ) := by
  have hn : Fneed_board [d] μ = some (.error ("InvalidBoard", none), μ) := by simp [Fneed_board, B_need_board, go, h]
  simp [Fneed_print, B_need_print, go, hn]
theorem comes_e {a i : D} {e : Ex} (h : Fneed_print [a, i] μ = some (.error e, μ)) : Fcomes [a, i] μ = some (.error e, μ) := by simp [Fcomes, B_comes, go, h]
theorem rel_e {a i : D} {e : Ex} (h : Fneed_print [a, i] μ = some (.error e, μ)) : Frelations [a, i] μ = some (.error e, μ) := by simp [Frelations, B_relations, go, h]
theorem holds_e {a i f : D} {e : Ex} (h : Fneed_print [a, i] μ = some (.error e, μ)) : Fholds [a, i, f] μ = some (.error e, μ) := by simp [Fholds, B_holds, go, h]
theorem erel {a i : D} (h : Frelations [a, i] μ = some (.error ("InvalidIndex", none), μ)) : F_law_error_of [.glo "relations", a, i] μ = some (.ok (.str "index value"), μ) := by
  simp [F_law_error_of, B__law_error_of, go, lk_rel, h, lab_index]
/-! ### factors that are none -/
def odds (m : Nat) : List D := [.non, .lst (List.replicate m (.int 1)), .tup (List.replicate (m + 1) (.int 1)), .tup (List.replicate (m - 1) (.int 1)), .tup (List.replicate m (.bl true)), .tup (List.replicate m (.int 1000000000000000000000000000001))]
theorem fac_no {a i : D} {m : Nat} (hm : 1 ≤ m) (hm2 : m ≤ 3) : ∀ d ∈ odds m, fin (exs (dropS 2 B_holds) [.d a, .d i, .d d, .d (.int m), .un, .un, .un, .un, .un] μ) = some (.error ("InvalidFactors", none), μ) := by
  have : m = 1 ∨ m = 2 ∨ m = 3 := by omega
  intro d hd
  simp only [odds, List.mem_cons, List.not_mem_nil, or_false] at hd
  rcases this with rfl | rfl | rfl <;> rcases hd with rfl | rfl | rfl | rfl | rfl | rfl <;> kernel_rfl
theorem act1 {a : Dr.Act} {ss : List Src} (h : a = .print ss) : ixD μ a.d (.int 1) = some (.tup (ss.map Src.d)) := by subst h; simp [Dr.Act.d]
theorem holds_no {b : Board} (hb : b.ok) {i : Nat} {w : Wire} {ss : List Src} (hi : b.ws[i]? = some w) (hp : w.act = .print ss) {d : D} (hd : d ∈ odds ss.length) : Fholds [b.d, .int i, d] μ = some (.error ("InvalidFactors", none), μ) := by
  have hw := hb.w w (List.mem_of_getElem? hi)
  have h2 := hw.2
  rw [hp] at h2
  have e0 := need_print_yes (μ := μ) hb hi (by rw [hp]; rfl)
  have e1 := fac_no (μ := μ) (a := b.d) (i := .int i) h2.1 h2.2.1 d hd
  have e2 := at_wire hi
  have e3 := wire2 (μ := μ) w
  have e4 := act1 (μ := μ) hp
  rw [← e1]
  simp only [Board.d] at e0 ⊢
  simp [Fholds, B_holds, go, e0, e2, e3, e4, dropS]
end
end K10
set_option Elab.async false
set_option linter.all false
set_option maxRecDepth 100000
set_option maxHeartbeats 4000000
/-! Lk10b: law k10: its loop. -/
namespace K10
open PySem L2 Mi Pg Ev Dr Mm Kv
def bodyK : Ss := match B_law with
  | .cons (.for_ _ _ b) _ => b
  | _ => .nil
def body1 : Ss := match dropS 3 bodyK with
  | .cons (.for_ _ _ b) _ => b
  | _ => .nil
def body2 : Ss := match dropS 4 bodyK with
  | .cons (.for_ _ _ b) _ => b
  | _ => .nil
def body2i : Ss := match dropS 1 body2 with
  | .cons (.for_ _ _ b) _ => b
  | _ => .nil
def body3 : Ss := match dropS 5 bodyK with
  | .cons (.for_ _ _ b) _ => b
  | _ => .nil
section
variable {μ : List Mo} {s0 s1 s2 s4 s5 s6 s7 s8 s9 s10 : Sl}
theorem loop1 {b : Board} (hb : b.ok) : ∀ (xs : List D) (a5 a6 : Sl), (∀ x ∈ xs, BadIx b x) →
    ∃ f5 f6, forL (.name 5) (exs body1) xs [s0, s1, s2, .d b.d, s4, a5, a6, s7, s8, s9, s10] μ = some (.nx, [s0, s1, s2, .d b.d, s4, f5, f6, s7, s8, s9, s10], μ)
  | [], a5, a6, _ => ⟨a5, a6, by simp [forL]⟩
  | x :: xs, a5, a6, h => by
    have hn := need_print_no (μ := μ) hb (h x List.mem_cons_self)
    have e1 := comes_e hn
    have e2 := erel (rel_e hn)
    have e3 := holds_e (f := .non) hn
    obtain ⟨f5, f6, ih⟩ := loop1 hb xs (.d x) (.d (.lst [.str "index value", .str "index value"])) fun y hy => h y (List.mem_cons_of_mem _ hy)
    refine ⟨f5, f6, ?_⟩
    rw [← ih]
    generalize b.d = B at *
    simp [forL, body1, bodyK, B_law, dropS, e1, e2, e3, lab_index, mul2, q_two, q_index, szL]
theorem loop2i {b : Board} (hb : b.ok) {i : Nat} {w : Wire} {ss : List Src} (hi : b.ws[i]? = some w) (hp : w.act = .print ss) : ∀ (xs : List D) (a5 : Sl), (∀ x ∈ xs, x ∈ odds ss.length) →
    ∃ f5, forL (.name 5) (exs body2i) xs [s0, s1, s2, .d b.d, s4, a5, s6, .d (.int i), s8, s9, s10] μ = some (.nx, [s0, s1, s2, .d b.d, s4, f5, s6, .d (.int i), s8, s9, s10], μ)
  | [], a5, _ => ⟨a5, by simp [forL]⟩
  | x :: xs, a5, h => by
    have e1 := holds_no (μ := μ) hb hi hp (h x List.mem_cons_self)
    obtain ⟨f5, ih⟩ := loop2i hb hi hp xs (.d x) fun y hy => h y (List.mem_cons_of_mem _ hy)
    refine ⟨f5, ?_⟩
    rw [← ih]
    generalize b.d = B at *
    simp [forL, body2i, body2, bodyK, B_law, dropS, e1, lab_fac, q_fac]
theorem muls (m : Nat) (hm : m ≤ 10) (x : D) : mulD (.lst [x]) (.int m) = some (.lst (List.replicate m x)) ∧ mulD (.tup [x]) (.int m) = some (.tup (List.replicate m x)) := by
  have : m = 0 ∨ m = 1 ∨ m = 2 ∨ m = 3 ∨ m = 4 ∨ m = 5 ∨ m = 6 ∨ m = 7 ∨ m = 8 ∨ m = 9 ∨ m = 10 := by omega
  rcases this with rfl | rfl | rfl | rfl | rfl | rfl | rfl | rfl | rfl | rfl | rfl <;> exact ⟨rfl, rfl⟩
theorem pow30 : Op.do .pow μ (.int 10) (.int 30) = some (.int 1000000000000000000000000000000) := by kernel_rfl
theorem step2 {b : Board} (hb : b.ok) {i : Nat} (hpi : pB b i = true) {a5 : Sl} : ∃ g5 m, exs body2 [s0, s1, s2, .d b.d, s4, a5, s6, .d (.int i), s8, s9, s10] μ = some (.nx, [s0, s1, s2, .d b.d, s4, g5, s6, .d (.int i), .d (.int (m : Nat)), s9, s10], μ) := by
  obtain ⟨w, ss, hi, hp⟩ : ∃ w ss, b.ws[i]? = some w ∧ w.act = .print ss := by
    unfold pB at hpi
    cases e : b.ws[i]? with
    | none => rw [e] at hpi; cases hpi
    | some w =>
      rw [e] at hpi
      have hpi : isP w.act = true := hpi
      cases e2 : w.act with
      | print ss => exact ⟨w, ss, rfl, e2⟩
      | _ => rw [e2] at hpi; cases hpi
  have hw := hb.w w (List.mem_of_getElem? hi)
  have h2 := hw.2
  rw [hp] at h2
  obtain ⟨h3, h4, _⟩ := h2
  obtain ⟨g5, e5⟩ := loop2i (μ := μ) (s0 := s0) (s1 := s1) (s2 := s2) (s4 := s4) (s6 := s6) (s8 := .d (.int ss.length)) (s9 := s9) (s10 := s10) hb hi hp (odds ss.length) a5 (fun x hx => hx)
  refine ⟨g5, ss.length, ?_⟩
  have e2 := at_wire hi
  have e3 := wire2 (μ := μ) w
  have e4 := act1 (μ := μ) hp
  have m1 := (muls ss.length (by omega) (.int 1)).1
  have m2 := (muls (ss.length + 1) (by omega) (.int 1)).2
  have m3 := (muls (ss.length - 1) (by omega) (.int 1)).2
  have m4 := (muls ss.length (by omega) (.bl true)).2
  have m5 := (muls ss.length (by omega) (.int 1000000000000000000000000000001)).2
  have c1 : ((ss.length + 1 : Nat) : Int) = (ss.length : Int) + 1 := by omega
  have c2 : ((ss.length - 1 : Nat) : Int) = (ss.length : Int) - 1 := by omega
  rw [c1] at m2
  rw [c2] at m3
  unfold odds at e5
  simp only [Board.d] at e5 ⊢
  generalize hm : ss.length = m at *
  simp [body2i, body2, bodyK, B_law, dropS] at e5
  simp [body2, bodyK, B_law, dropS, e2, e3, e4, hm, m1, m2, m3, m4, m5, pow30, szL, x_kfor, e5]
theorem loop2 {b : Board} (hb : b.ok) : ∀ (xs : List Nat) (a5 a7 a8 : Sl), (∀ i ∈ xs, pB b i = true) →
    ∃ f5 f7 f8, forL (.name 7) (exs body2) (xs.map fun (i : Nat) => D.int i) [s0, s1, s2, .d b.d, s4, a5, s6, a7, a8, s9, s10] μ = some (.nx, [s0, s1, s2, .d b.d, s4, f5, s6, f7, f8, s9, s10], μ)
  | [], a5, a7, a8, _ => ⟨a5, a7, a8, by simp [forL]⟩
  | i :: xs, a5, a7, a8, h => by
    obtain ⟨g5, m, e⟩ := step2 (μ := μ) (s0 := s0) (s1 := s1) (s2 := s2) (s4 := s4) (s6 := s6) (s8 := a8) (s9 := s9) (s10 := s10) hb (h i List.mem_cons_self) (a5 := a5)
    obtain ⟨f5, f7, f8, ih⟩ := loop2 hb xs g5 (.d (.int i)) (.d (.int m)) fun y hy => h y (List.mem_cons_of_mem _ hy)
    refine ⟨f5, f7, f8, ?_⟩
    rw [List.map_cons, forL_nx rfl e]
    exact ih
theorem bd_no {d : D} {n s : Nat} (hv : vN n s d = true) (hn : n ≤ 60) (hs : s ≤ 500) : F_law_is_board [d] μ = some (.ok (.bl (boardB d)), μ) ∧ (boardB d = false → Fis_board [d] μ = some (.ok (.bl false), μ)) := by
  have ok := vN_ok n s d hv
  have hz := sz_board (vN_sz n s d (by omega) hv)
  refine ⟨lboard_B ok (by omega) hz, fun h => ?_⟩
  rw [← h]
  exact board_B ok (by omega) hz
theorem loop3 : ∀ (xs : List D) (a5 : Sl), (∀ x ∈ xs, ∃ n s, vN n s x = true ∧ n ≤ 60 ∧ s ≤ 500) →
    ∃ f5, forL (.name 5) (exs body3) xs [s0, s1, s2, s3, s4, a5, s6, s7, s8, s9, s10] μ = some (.nx, [s0, s1, s2, s3, s4, f5, s6, s7, s8, s9, s10], μ)
  | [], a5, _ => ⟨a5, by simp [forL]⟩
  | x :: xs, a5, h => by
    obtain ⟨n, s, hv, hn, hs⟩ := h x List.mem_cons_self
    obtain ⟨e1, e2⟩ := bd_no (μ := μ) hv hn hs
    obtain ⟨f5, ih⟩ := loop3 xs (.d x) fun y hy => h y (List.mem_cons_of_mem _ hy)
    refine ⟨f5, ?_⟩
    rw [← ih]
    cases hB : boardB x with
    | true =>
      rw [hB] at e1
      simp [forL, body3, bodyK, B_law, dropS, e1]
    | false =>
      rw [hB] at e1
      have hn := need_print_nob (x := .non) (e2 hB)
      have e3 := holds_e (f := .non) hn
      have e4 := comes_e hn
      simp [forL, body3, bodyK, B_law, dropS, e1, e3, e4, lab_board, q_board]
theorem okNs_ints (n : Nat) (L : List Nat) : okNs n (L.map fun (i : Nat) => D.int i) = true := okNs_all fun x hx => by
  obtain ⟨i, _, rfl⟩ := List.mem_map.mp hx
  exact ok_int n _
theorem in_ints (L : List Nat) (i : Nat) : inD μ (.int i) (.lst (L.map fun (i : Nat) => D.int i)) = some (decide (i ∈ L)) := by
  rw [inD_l rfl (okNs_ints 63 L)]
  congr 1
  rw [Bool.eq_iff_iff]
  simp only [List.any_eq_true, decide_eq_true_eq]
  constructor
  · rintro ⟨x, hx, he⟩
    obtain ⟨j, hj, rfl⟩ := List.mem_map.mp hx
    have : ((j : Int) == (i : Int)) = true := he
    rw [beq_iff_eq] at this
    have : j = i := by omega
    exact this ▸ hj
  · intro h
    exact ⟨.int i, List.mem_map.mpr ⟨i, h, rfl⟩, by show ((i : Int) == (i : Int)) = true; simp⟩
theorem loop_step {ns : List Int} {x : Nat} (hx : x ≤ 1000) {a2 a3 a4 a5 a6 a7 a8 : Sl} {μ : List Mo} :
    ∃ f2 f3 f4 f5 f6 f7 f8 μ', exs bodyK [.d (.scr ns), .d (.int x), a2, a3, a4, a5, a6, a7, a8, .un, .un] μ = some (.nx, [.d (.scr ns), .d (.int x), f2, f3, f4, f5, f6, f7, f8, .un, .un], μ') := by
  obtain ⟨μ1, e1, v⟩ := vat_spec (μ := μ) (ns := ns) (k := x) hx
  obtain ⟨bd, μ2, e2, d2, B, rfl, hc, hs, hl, hw⟩ := board_spec (n := μ.length) (μ := μ1) (k := 6) v.vat (by omega)
  have hb : B.ok := ⟨by omega, by omega, by omega, hw⟩
  have hpr : ∀ i ∈ (List.range B.ws.length).filter (pB B), pB B i = true := fun i hi => (List.mem_filter.mp hi).2
  have hrg : rgD 0 (B.ws.length : Int) = (List.range B.ws.length).map fun (i : Nat) => D.int i := by unfold rgD; simp
  have hok : rgOk 0 (B.ws.length : Int) = true := by unfold rgOk; simp; omega
  obtain ⟨L, hL⟩ : ∃ L, (List.range B.ws.length).filter (pB B) = L := ⟨_, rfl⟩
  obtain ⟨M, hM⟩ : ∃ M, (List.range B.ws.length).filter (fun i => !decide (i ∈ L)) = M := ⟨_, rfl⟩
  have hLl : L.length ≤ 6 := by
    have := List.length_filter_le (pB B) (List.range B.ws.length)
    rw [hL] at this
    simp at this
    omega
  have hMl : M.length ≤ 6 := by
    have := List.length_filter_le (fun i => !decide (i ∈ L)) (List.range B.ws.length)
    rw [hM] at this
    simp at this
    omega
  have c1 := comp_keep (μ := μ2) (p := pB B) (f := fun (i : Nat) => D.int i) (g := fun (i : Nat) => D.int i) (tg := .name 10) (keep := ev (.op .eq (.idx (.idx (.idx (.idx (.var 3) (.con (.int (2)))) (.var 10)) (.con (.int (2)))) (.con (.int (0)))) (.con (.str "print")))) (elt := ev (.var 10)) (δ := [.d (.scr ns), .d (.int x), .d (.obj μ.length), .d B.d, a4, a5, a6, a7, a8, .un, .un]) (List.range B.ws.length) [] (by rw [szL]; simp; omega) (fun i hi => by
    have hi2 := List.mem_range.mp hi
    have e0 := at_wire (List.getElem?_eq_getElem hi2)
    refine ⟨_, rfl, ?_, fun _ => by simp⟩
    have e3 := wire2 (μ := μ2) B.ws[i]
    have e4 := act_hd (μ := μ2) B.ws[i].act
    have e5 := hd_eq (μ := μ2) B.ws[i].act
    have e6 : pB B i = isP B.ws[i].act := by unfold pB; rw [List.getElem?_eq_getElem hi2]
    rw [e6]
    simp [Board.d, e0, e3, e4, e5])
  have c2 := comp_keep (μ := μ2) (p := fun i => !decide (i ∈ L)) (f := fun (i : Nat) => D.int i) (g := fun (i : Nat) => D.int i) (tg := .name 10) (keep := ev (.op .nin (.var 10) (.var 4))) (elt := ev (.var 10)) (δ := [.d (.scr ns), .d (.int x), .d (.obj μ.length), .d B.d, .d (.lst (L.map fun (i : Nat) => D.int i)), a5, a6, a7, a8, .un, .un]) (List.range B.ws.length) [] (by rw [szL]; simp; omega) (fun i hi => by
    have e := in_ints (μ := μ2) L i
    refine ⟨_, rfl, ?_, fun _ => by simp⟩
    simp [e])
  rw [List.nil_append] at c1 c2
  rw [hL] at c1
  rw [hM] at c2
  rw [hL] at hpr
  have hbad : ∀ d ∈ [.non, .int (-1), .int B.ws.length, .bl true, .str "0"] ++ M.map (fun (i : Nat) => D.int i), BadIx B d := by
    intro d hd
    rcases List.mem_append.mp hd with q | q
    · simp only [List.mem_cons, List.not_mem_nil, or_false] at q
      rcases q with rfl | rfl | rfl | rfl | rfl
      · exact ⟨⟨1, rfl⟩, .inl rfl⟩
      · exact ⟨⟨1, rfl⟩, .inl (by simp [wholeB])⟩
      · exact ⟨⟨1, rfl⟩, .inl (by simp [wholeB]; omega)⟩
      · exact ⟨⟨1, rfl⟩, .inl rfl⟩
      · exact ⟨⟨1, by decide +kernel⟩, .inl rfl⟩
    · obtain ⟨i, hi, rfl⟩ := List.mem_map.mp q
      rw [← hM] at hi
      obtain ⟨h1, h2⟩ := List.mem_filter.mp hi
      have h1 := List.mem_range.mp h1
      refine ⟨⟨1, rfl⟩, .inr ⟨i, B.ws[i], rfl, List.getElem?_eq_getElem h1, ?_⟩⟩
      simp only [Bool.not_eq_true', decide_eq_false_iff_not, ← hL, List.mem_filter, List.mem_range, not_and, Bool.not_eq_true] at h2
      have := h2 h1
      unfold pB at this
      rw [List.getElem?_eq_getElem h1] at this
      exact this
  obtain ⟨g5, g6, l1⟩ := loop1 (μ := μ2) (s0 := .d (.scr ns)) (s1 := .d (.int x)) (s2 := .d (.obj μ.length)) (s4 := .d (.lst (L.map fun (i : Nat) => D.int i))) (s7 := a7) (s8 := a8) (s9 := .un) (s10 := .un) hb _ a5 a6 hbad
  obtain ⟨h5, h7, h8, l2⟩ := loop2 (μ := μ2) (s0 := .d (.scr ns)) (s1 := .d (.int x)) (s2 := .d (.obj μ.length)) (s4 := .d (.lst (L.map fun (i : Nat) => D.int i))) (s6 := g6) (s9 := .un) (s10 := .un) hb L g5 a7 a8 hpr
  have bv := board_v hb
  obtain ⟨r, μ3, e3, d3, hr⟩ := bent_spec 24 5 45 B.d μ2 (by omega) (by omega) (by omega) (by omega) bv d2.vat
  have e3 : F_law_bent [.obj μ.length, B.d] μ2 = some (.ok r, μ3) := e3
  have hvs : ∀ d ∈ [.non, .tup [B.d], .tup [.int B.nc, .int B.ns], r], ∃ n s, vN n s d = true ∧ n ≤ 60 ∧ s ≤ 500 := by
    intro d hd
    simp only [List.mem_cons, List.not_mem_nil, or_false] at hd
    rcases hd with rfl | rfl | rfl | rfl
    · exact ⟨1, 45, rfl, by omega, by omega⟩
    · exact ⟨6, 45, vN_mk (by simp) (fun y hy => by rw [List.mem_singleton.mp hy]; exact bv), by omega, by omega⟩
    · have h1 := hb.c
      have h2 := hb.s
      refine ⟨2, 45, vN_mk (by simp) (fun y hy => ?_), by omega, by omega⟩
      simp only [List.mem_cons, List.not_mem_nil, or_false] at hy
      rcases hy with rfl | rfl
      · exact vi (by omega) 1
      · exact vi (by omega) 1
    · exact ⟨8, 47, hr, by omega, by omega⟩
  obtain ⟨k5, l3⟩ := loop3 (μ := μ3) (s0 := .d (.scr ns)) (s1 := .d (.int x)) (s2 := .d (.obj μ.length)) (s3 := .d B.d) (s4 := .d (.lst (L.map fun (i : Nat) => D.int i))) (s6 := g6) (s7 := h7) (s8 := h8) (s9 := .un) (s10 := .un) _ h5 hvs
  refine ⟨.d (.obj μ.length), .d B.d, .d (.lst (L.map fun (i : Nat) => D.int i)), k5, g6, h7, h8, μ3, ?_⟩
  have hcut : slD μ2 B.d none (some 2) = some (.tup [.int B.nc, .int B.ns]) := by simp [Board.d, cutL]; rfl
  have hix : ∀ μ, ixD μ B.d (.int 2) = some (.tup (B.ws.map Wire.d)) := fun μ => by simp [Board.d]
  simp [body1, bodyK, B_law, dropS] at l1
  simp [body2, bodyK, B_law, dropS] at l2
  simp [body3, bodyK, B_law, dropS] at l3
  simp at c1 c2 e2
  have z1 : M.length + 1 + 1 + 1 + 1 + 1 ≤ 16777216 := by omega
  have z2 : 5 + M.length ≤ 16777216 := by omega
  generalize B.d = BD at *
  simp [B_law, bodyK, e1, e2, hix, hrg, hok, kcomp, wipeS, c1, c2, szL, x_kfor, l1, l2, hcut, e3, l3, z1, z2]
theorem loop_ok {ns : List Int} : ∀ (xs : List Nat) (a1 a2 a3 a4 a5 a6 a7 a8 : Sl) (μ : List Mo), (∀ x ∈ xs, x ≤ 1000) →
    ∃ f1 f2 f3 f4 f5 f6 f7 f8 μ', forL (.name 1) (exs bodyK) (xs.map fun (i : Nat) => D.int i) [.d (.scr ns), a1, a2, a3, a4, a5, a6, a7, a8, .un, .un] μ = some (.nx, [.d (.scr ns), f1, f2, f3, f4, f5, f6, f7, f8, .un, .un], μ')
  | [], a1, a2, a3, a4, a5, a6, a7, a8, μ, _ => ⟨a1, a2, a3, a4, a5, a6, a7, a8, μ, by simp [forL]⟩
  | x :: xs, a1, a2, a3, a4, a5, a6, a7, a8, μ, h => by
    obtain ⟨g2, g3, g4, g5, g6, g7, g8, μ1, e⟩ := loop_step (μ := μ) (ns := ns) (h x List.mem_cons_self) (a2 := a2) (a3 := a3) (a4 := a4) (a5 := a5) (a6 := a6) (a7 := a7) (a8 := a8)
    obtain ⟨f1, f2, f3, f4, f5, f6, f7, f8, μ', ih⟩ := loop_ok (ns := ns) xs (.d (.int x)) g2 g3 g4 g5 g6 g7 g8 μ1 fun y hy => h y (List.mem_cons_of_mem _ hy)
    refine ⟨f1, f2, f3, f4, f5, f6, f7, f8, μ', ?_⟩
    rw [List.map_cons, forL_nx rfl e]
    exact ih
end
end K10
set_option Elab.async false
set_option linter.all false
set_option maxRecDepth 100000
set_option maxHeartbeats 4000000
/-! Lk10c: law k10: the board at the end. -/
namespace K10
open PySem L2 Mi Pg Ev Dr Mm Kv
def BD : D := .tup [.int 0, .int 0, .tup [.tup [.str "card", .non, .tup [.str "print", .tup [.str "x", .str "y"]]]]]
def cdD (a b : Int) (h : Bool) (x y : Int) : D := .tup [.int a, .int b, .bl h, .int x, .int y]
def stD (k : D) : D := .tup [.tup [], .tup [], k]
def ky (a b : Int) : D := .tup [.int a, .int b]
def prL (a b x y : Int) : D := .tup [.tup [ky x y, .tup [.int a, .int b, .bl false], .int 0]]
def bodyW : Ss := match dropS 1 B_all_items with
  | .cons (.while_ _ _ b) _ => b
  | _ => .nil
def bodyN : Ss := match dropS 1 bodyW with
  | .cons (.for_ _ _ b) _ => b
  | _ => .nil
def bodyC : Ss := match bodyN with
  | .cons (.for_ _ _ b) _ => b
  | _ => .nil
section
variable {μ : List Mo} {n : Nat}
theorem inD_dc {kvs : List (NestedKey × D)} {ds : List D} (h : μ[n]? = some (.dcn kvs)) : inD μ (.tup ds) (.obj n) = (nkT (.tup ds)).map fun k => (lookN kvs k).isSome := by
  simp only [inD, see, h]
theorem ixD_dc {kvs : List (NestedKey × D)} {ds : List D} (h : μ[n]? = some (.dcn kvs)) : ixD μ (.obj n) (.tup ds) = (nkT (.tup ds)).bind (lookN kvs) := by
  simp only [ixD, see, h]
theorem putD_dc {kvs : List (NestedKey × D)} {ds : List D} {v : D} (h : μ[n]? = some (.dcn kvs)) (hl : kvs.length < 1000000) : putD μ (.obj n) (.tup ds) v = (nkT (.tup ds)).map fun k => μ.set n (.dcn (putN kvs k v)) := by
  simp only [putD, h, if_pos hl]
  cases nkT (.tup ds) <;> rfl
theorem wr0 : Fwith_row [.tup [], .tup []] μ = some (.ok (.tup []), μ) := by kernel_rfl
theorem ro0 : Frest_of [.tup [], .tup []] μ = some (.ok (.tup []), μ) := by kernel_rfl
theorem po0 : Fplace_of [.tup []] μ = some (.ok .non, μ) := by kernel_rfl
theorem new_first {k : NestedKey} (hk : nkT (.tup []) = some k) (h : μ[n]? = some (.dcn [])) (K : D) : Fis_new__2 [.obj n, stD K] μ = some (.ok (.bl true), μ.set n (.dcn [(k, .tup [])])) := by
  have h1 := inD_dc (ds := []) h
  have h2 := putD_dc (ds := []) (v := .tup []) h (by simp)
  rw [hk] at h1 h2
  simp [lookN, putN] at h1 h2
  simp [Fis_new__2, B_is_new__2, go, stD, h1, wr0, h2]
theorem new_more {k : NestedKey} (hk : nkT (.tup []) = some k) (h : μ[n]? = some (.dcn [(k, .tup [])])) (K : D) : Fis_new__2 [.obj n, stD K] μ = some (.ok (.bl false), μ) := by
  have h1 := inD_dc (ds := []) h
  have h2 := ixD_dc (ds := []) h
  rw [hk] at h1 h2
  simp [lookN] at h1 h2
  simp [Fis_new__2, B_is_new__2, go, stD, h1, h2, ro0, po0]
theorem step_c {F F' K K' S2 dk : D} {c : D} {a b x y : Int} {later : List D} {s2 s4 a10 a11 a12 : Sl}
    (hf : Ffeed [BD, stD K, c] μ = some (.ok (.tup [stD K', prL a b x y]), μ)) (hn : Ffinish [BD, stD K'] μ = some (.ok (.tup [S2, .tup []]), μ))
    (hw : Fwith_row [F, ky x y] μ = some (.ok F', μ)) (hnew : Fis_new__2 [.obj n, stD K'] μ = some (.ok (.bl false), μ)) :
    exs bodyC [.d BD, .d (.int 0), s2, .d (.obj n), s4, .d F, .d (.lst later), .d dk, .d (stD K), .d c, a10, a11, a12] μ = some (.nx, [.d BD, .d (.int 0), s2, .d (.obj n), .d (.bl true), .d F', .d (.lst later), .d dk, .d (stD K), .d c, .d (stD K'), .d (prL a b x y), .d (ky x y)], μ) := by
  have hi : Fitems_of [prL a b x y, .int 0] μ = some (.ok (.lst [ky x y]), μ) := by kernel_rfl
  have ha : addD μ (prL a b x y) (.tup []) = some (prL a b x y) := by simp [prL, szL]
  generalize BD = B at *
  generalize hS : stD K = S at *
  generalize hS' : stD K' = S' at *
  generalize prL a b x y = P at *
  generalize ky x y = it at *
  simp [bodyC, bodyN, bodyW, B_all_items, dropS, hf, hn, ha, hi, x_kfor, forL, hw, hnew, szL]
theorem step_n {F F' K K' S2 c : D} {a b x y : Int} {μ' : List Mo} {s2 s4 a10 a11 a12 : Sl}
    (hf : Ffeed [BD, stD K, c] μ = some (.ok (.tup [stD K', prL a b x y]), μ)) (hn : Ffinish [BD, stD K'] μ = some (.ok (.tup [S2, .tup []]), μ))
    (hw : Fwith_row [F, ky x y] μ = some (.ok F', μ)) (hnew : Fis_new__2 [.obj n, stD K'] μ = some (.ok (.bl true), μ')) :
    exs bodyC [.d BD, .d (.int 0), s2, .d (.obj n), s4, .d F, .d (.lst []), .d (.tup []), .d (stD K), .d c, a10, a11, a12] μ = some (.nx, [.d BD, .d (.int 0), s2, .d (.obj n), .d (.bl true), .d F', .d (.lst [.tup [.tup [c], stD K']]), .d (.tup []), .d (stD K), .d c, .d (stD K'), .d (prL a b x y), .d (ky x y)], μ') := by
  have hi : Fitems_of [prL a b x y, .int 0] μ = some (.ok (.lst [ky x y]), μ) := by kernel_rfl
  have ha : addD μ (prL a b x y) (.tup []) = some (prL a b x y) := by simp [prL, szL]
  generalize BD = B at *
  generalize hS : stD K = S at *
  generalize hS' : stD K' = S' at *
  generalize prL a b x y = P at *
  generalize ky x y = it at *
  simp [bodyC, bodyN, bodyW, B_all_items, dropS, hf, hn, ha, hi, x_kfor, forL, hw, hnew, szL]
theorem while_1 {t : List Sl → List Mo → RM D} {b : List Sl → List Mo → SM} {m : Nat} {δ δ' : List Sl} {μ μ' : List Mo} (h1 : t δ μ = some (.ok (.bl true), μ)) (h2 : b δ μ = some (.nx, δ', μ')) : whileL t b (m + 1) δ μ = whileL t b m δ' μ' := by
  conv => lhs; unfold whileL
  simp only [h1, Mi.thenE, h2]
theorem while_0 {t : List Sl → List Mo → RM D} {b : List Sl → List Mo → SM} {m : Nat} {δ : List Sl} {μ : List Mo} (h1 : t δ μ = some (.ok (.bl false), μ)) : whileL t b (m + 1) δ μ = some (.nx, δ, μ) := by
  unfold whileL
  simp only [h1, Mi.thenE]
def SP : D := .tup [ky 1 0, ky 0 1]
def c0 : D := cdD 0 0 false 0 0
def L6 : List D := [c0, cdD 0 0 false 1 0, cdD 0 0 false 0 1, cdD 0 0 true 0 0, cdD 0 0 true 1 0, cdD 0 0 true 0 1]
def L18 : List D := [cdD 0 0 false 0 0, cdD 0 0 false 1 0, cdD 0 0 false 0 1, cdD 0 0 true 0 0, cdD 0 0 true 1 0, cdD 0 0 true 0 1, cdD 0 1 false 0 0, cdD 0 1 false 1 0, cdD 0 1 false 0 1, cdD 0 1 true 0 0, cdD 0 1 true 1 0, cdD 0 1 true 0 1, cdD 1 0 false 0 0, cdD 1 0 false 1 0, cdD 1 0 false 0 1, cdD 1 0 true 0 0, cdD 1 0 true 1 0, cdD 1 0 true 0 1]
theorem nc0 : Fnext_cards [.tup []] μ = some (.ok (.lst L6), μ) := by kernel_rfl
theorem nc1 : Fnext_cards [.tup [c0]] μ = some (.ok (.lst L18), μ) := by kernel_rfl
theorem f6 {k : NestedKey} (hk : nkT (.tup []) = some k) (h : μ[n]? = some (.dcn [])) {s2 s4 a9 a10 a11 a12 : Sl} : ∃ g9 g10 g11 g12, forL (.name 9) (exs bodyC) L6 [.d BD, .d (.int 0), s2, .d (.obj n), s4, .d (.tup []), .d (.lst []), .d (.tup []), .d (stD .non), a9, a10, a11, a12] μ = some (.nx, [.d BD, .d (.int 0), s2, .d (.obj n), .d (.bl true), .d SP, .d (.lst [.tup [.tup [c0], stD (ky 0 0)]]), .d (.tup []), .d (stD .non), g9, g10, g11, g12], μ.set n (.dcn [(k, .tup [])])) := by
  have hl : n < μ.length := (List.getElem?_eq_some_iff.mp h).1
  have h2 : (μ.set n (.dcn [(k, .tup [])]))[n]? = some (.dcn [(k, .tup [])]) := by rw [List.getElem?_set_self hl]
  have n1 := new_first hk h (ky 0 0)
  have n2 := new_more hk h2 (ky 0 0)
  generalize μ.set n (.dcn [(k, .tup [])]) = μ1 at *
  refine ⟨.d (cdD 0 0 true 0 1), .d (stD (ky 0 0)), .d (prL 0 0 0 1), .d (ky 0 1), ?_⟩
  rw [L6, forL_nx rfl (step_n (K' := ky 0 0) (F' := .tup []) (S2 := stD .non) (a := 0) (b := 0) (x := 0) (y := 0) (by kernel_rfl) (by kernel_rfl) (by kernel_rfl) n1),
    forL_nx rfl (step_c (K' := ky 0 0) (F' := .tup [ky 1 0]) (S2 := stD .non) (a := 0) (b := 0) (x := 1) (y := 0) (by kernel_rfl) (by kernel_rfl) (by kernel_rfl) n2),
    forL_nx rfl (step_c (K' := ky 0 0) (F' := SP) (S2 := stD .non) (a := 0) (b := 0) (x := 0) (y := 1) (by kernel_rfl) (by kernel_rfl) (by kernel_rfl) n2),
    forL_nx rfl (step_c (K' := ky 0 0) (F' := SP) (S2 := stD .non) (a := 0) (b := 0) (x := 0) (y := 0) (by kernel_rfl) (by kernel_rfl) (by kernel_rfl) n2),
    forL_nx rfl (step_c (K' := ky 0 0) (F' := SP) (S2 := stD .non) (a := 0) (b := 0) (x := 1) (y := 0) (by kernel_rfl) (by kernel_rfl) (by kernel_rfl) n2),
    forL_nx rfl (step_c (K' := ky 0 0) (F' := SP) (S2 := stD .non) (a := 0) (b := 0) (x := 0) (y := 1) (by kernel_rfl) (by kernel_rfl) (by kernel_rfl) n2)]
  simp only [forL]
/-- a card behind the first one -/
def okC (μ : List Mo) (c : D) : Prop := ∃ a b x y, Ffeed [BD, stD (ky 0 0), c] μ = some (.ok (.tup [stD (ky a b), prL a b x y]), μ) ∧ Ffinish [BD, stD (ky a b)] μ = some (.ok (.tup [stD .non, .tup []]), μ) ∧ Fwith_row [SP, ky x y] μ = some (.ok SP, μ)
theorem okC_all : ∀ c ∈ L18, okC μ c := by
  intro c hc
  simp only [L18, List.mem_cons, List.not_mem_nil, or_false] at hc
  rcases hc with rfl | rfl | rfl | rfl | rfl | rfl | rfl | rfl | rfl | rfl | rfl | rfl | rfl | rfl | rfl | rfl | rfl | rfl
  · exact ⟨0, 0, 0, 0, by kernel_rfl, by kernel_rfl, by kernel_rfl⟩
  · exact ⟨0, 0, 1, 0, by kernel_rfl, by kernel_rfl, by kernel_rfl⟩
  · exact ⟨0, 0, 0, 1, by kernel_rfl, by kernel_rfl, by kernel_rfl⟩
  · exact ⟨0, 0, 0, 0, by kernel_rfl, by kernel_rfl, by kernel_rfl⟩
  · exact ⟨0, 0, 1, 0, by kernel_rfl, by kernel_rfl, by kernel_rfl⟩
  · exact ⟨0, 0, 0, 1, by kernel_rfl, by kernel_rfl, by kernel_rfl⟩
  · exact ⟨0, 1, 0, 0, by kernel_rfl, by kernel_rfl, by kernel_rfl⟩
  · exact ⟨0, 1, 1, 0, by kernel_rfl, by kernel_rfl, by kernel_rfl⟩
  · exact ⟨0, 1, 0, 1, by kernel_rfl, by kernel_rfl, by kernel_rfl⟩
  · exact ⟨0, 1, 0, 0, by kernel_rfl, by kernel_rfl, by kernel_rfl⟩
  · exact ⟨0, 1, 1, 0, by kernel_rfl, by kernel_rfl, by kernel_rfl⟩
  · exact ⟨0, 1, 0, 1, by kernel_rfl, by kernel_rfl, by kernel_rfl⟩
  · exact ⟨1, 0, 0, 0, by kernel_rfl, by kernel_rfl, by kernel_rfl⟩
  · exact ⟨1, 0, 1, 0, by kernel_rfl, by kernel_rfl, by kernel_rfl⟩
  · exact ⟨1, 0, 0, 1, by kernel_rfl, by kernel_rfl, by kernel_rfl⟩
  · exact ⟨1, 0, 0, 0, by kernel_rfl, by kernel_rfl, by kernel_rfl⟩
  · exact ⟨1, 0, 1, 0, by kernel_rfl, by kernel_rfl, by kernel_rfl⟩
  · exact ⟨1, 0, 0, 1, by kernel_rfl, by kernel_rfl, by kernel_rfl⟩
theorem f18 {k : NestedKey} (hk : nkT (.tup []) = some k) (h : μ[n]? = some (.dcn [(k, .tup [])])) {s2 : Sl} : ∀ (cs : List D) (a9 a10 a11 a12 : Sl), (∀ c ∈ cs, okC μ c) → ∃ g9 g10 g11 g12, forL (.name 9) (exs bodyC) cs [.d BD, .d (.int 0), s2, .d (.obj n), .d (.bl true), .d SP, .d (.lst []), .d (.tup [c0]), .d (stD (ky 0 0)), a9, a10, a11, a12] μ = some (.nx, [.d BD, .d (.int 0), s2, .d (.obj n), .d (.bl true), .d SP, .d (.lst []), .d (.tup [c0]), .d (stD (ky 0 0)), g9, g10, g11, g12], μ)
  | [], a9, a10, a11, a12, _ => ⟨a9, a10, a11, a12, by simp only [forL]⟩
  | c :: cs, a9, a10, a11, a12, hc => by
    obtain ⟨a, b, x, y, e1, e2, e3⟩ := hc c List.mem_cons_self
    have n2 := new_more hk h (ky a b)
    obtain ⟨g9, g10, g11, g12, ih⟩ := f18 hk h cs (.d c) (.d (stD (ky a b))) (.d (prL a b x y)) (.d (ky x y)) fun y hy => hc y (List.mem_cons_of_mem _ hy)
    refine ⟨g9, g10, g11, g12, ?_⟩
    rw [forL_nx rfl (step_c e1 e2 e3 n2)]
    exact ih
theorem nodes1 {k : NestedKey} (hk : nkT (.tup []) = some k) (h : μ[n]? = some (.dcn [])) {a7 a8 a9 a10 a11 a12 : Sl} : ∃ g7 g8 g9 g10 g11 g12, exs bodyW [.d BD, .d (.int 0), .d (.lst [.tup [.tup [], stD .non]]), .d (.obj n), .d (.bl false), .d (.tup []), .un, a7, a8, a9, a10, a11, a12] μ = some (.nx, [.d BD, .d (.int 0), .d (.lst [.tup [.tup [c0], stD (ky 0 0)]]), .d (.obj n), .d (.bl true), .d SP, .d (.lst [.tup [.tup [c0], stD (ky 0 0)]]), g7, g8, g9, g10, g11, g12], μ.set n (.dcn [(k, .tup [])])) := by
  obtain ⟨g9, g10, g11, g12, e⟩ := f6 hk h (s2 := .d (.lst [.tup [.tup [], stD .non]])) (s4 := .d (.bl false)) (a9 := a9) (a10 := a10) (a11 := a11) (a12 := a12)
  refine ⟨.d (.tup []), .d (stD .non), g9, g10, g11, g12, ?_⟩
  have e0 := nc0 (μ := μ)
  simp [bodyC, bodyN, bodyW, B_all_items, dropS] at e
  generalize BD = B at *
  generalize L6 = L at *
  generalize SP = S at *
  generalize c0 = c at *
  generalize hS : stD .non = S0 at *
  generalize hS' : stD (ky 0 0) = S1 at *
  simp [bodyW, B_all_items, dropS, x_kfor, forL, e0, e, szL]
theorem nodes2 {k : NestedKey} (hk : nkT (.tup []) = some k) (h : μ[n]? = some (.dcn [(k, .tup [])])) {a6 a7 a8 a9 a10 a11 a12 : Sl} : ∃ g7 g8 g9 g10 g11 g12, exs bodyW [.d BD, .d (.int 0), .d (.lst [.tup [.tup [c0], stD (ky 0 0)]]), .d (.obj n), .d (.bl true), .d SP, a6, a7, a8, a9, a10, a11, a12] μ = some (.nx, [.d BD, .d (.int 0), .d (.lst []), .d (.obj n), .d (.bl true), .d SP, .d (.lst []), g7, g8, g9, g10, g11, g12], μ) := by
  obtain ⟨g9, g10, g11, g12, e⟩ := f18 hk h (s2 := .d (.lst [.tup [.tup [c0], stD (ky 0 0)]])) L18 a9 a10 a11 a12 okC_all
  refine ⟨.d (.tup [c0]), .d (stD (ky 0 0)), g9, g10, g11, g12, ?_⟩
  have e0 := nc1 (μ := μ)
  simp [bodyC, bodyN, bodyW, B_all_items, dropS] at e
  generalize BD = B at *
  generalize L18 = L at *
  generalize SP = S at *
  generalize c0 = c at *
  generalize hS' : stD (ky 0 0) = S1 at *
  simp [bodyW, B_all_items, dropS, x_kfor, forL, e0, e, szL]
theorem fuel3 : fuelW = (10 ^ 40 - 3) + 1 + 1 + 1 := by decide +kernel
theorem p_many {is : List Nat} {ds : List D} {δ : List Sl} : (Tg.many is).put (.tup ds) δ = putAll is ds δ := rfl
theorem e_dnew {δ : List Sl} : ev .dnew δ μ = some (.ok (.obj μ.length), μ ++ [.dcn []]) := by simp only [ev]; rfl
theorem all_ok : ∃ μ', Fall_items [BD, .int 0] μ = some (.ok (.tup [.bl true, SP]), μ') := by
  obtain ⟨k, hk⟩ : ∃ k, nkT (.tup []) = some k := ⟨_, rfl⟩
  have h1 : (μ ++ [Mo.dcn []])[μ.length]? = some (.dcn []) := by simp
  obtain ⟨g7, g8, g9, g10, g11, g12, e1⟩ := nodes1 hk h1 (a7 := .un) (a8 := .un) (a9 := .un) (a10 := .un) (a11 := .un) (a12 := .un)
  have h2 : ((μ ++ [Mo.dcn []]).set μ.length (.dcn [(k, .tup [])]))[μ.length]? = some (.dcn [(k, .tup [])]) := by rw [List.getElem?_set_self (by simp)]
  obtain ⟨j7, j8, j9, j10, j11, j12, e2⟩ := nodes2 hk h2 (a6 := .d (.lst [.tup [.tup [c0], stD (ky 0 0)]])) (a7 := g7) (a8 := g8) (a9 := g9) (a10 := g10) (a11 := g11) (a12 := g12)
  refine ⟨(μ ++ [Mo.dcn []]).set μ.length (.dcn [(k, .tup [])]), ?_⟩
  have hb : ∀ μ, Fbegin [BD] μ = some (.ok (stD .non), μ) := fun μ => by kernel_rfl
  have t1 : ∀ μ, eqD μ (.lst [.tup [.tup [], stD .non]]) (.lst []) = some false := fun μ => by kernel_rfl
  have t2 : ∀ μ, eqD μ (.lst [.tup [.tup [c0], stD (ky 0 0)]]) (.lst []) = some false := fun μ => by kernel_rfl
  have t3 : ∀ μ, eqD μ (.lst []) (.lst []) = some true := fun μ => by kernel_rfl
  have w : ∀ (δ : List Sl), δ = [.d BD, .d (.int 0), .d (.lst [.tup [.tup [], stD .non]]), .d (.obj μ.length), .d (.bl false), .d (.tup []), .un, .un, .un, .un, .un, .un, .un] → whileL (ev (.op .ne (.var 2) (.lst .nil))) (exs bodyW) fuelW δ (μ ++ [Mo.dcn []]) = some (.nx, [.d BD, .d (.int 0), .d (.lst []), .d (.obj μ.length), .d (.bl true), .d SP, .d (.lst []), j7, j8, j9, j10, j11, j12], (μ ++ [Mo.dcn []]).set μ.length (.dcn [(k, .tup [])])) := by
    rintro δ rfl
    rw [fuel3, while_1 (by simp [t1]) e1, while_1 (by simp [t2]) e2, while_0 (by simp [t3])]
  have w := w _ rfl
  have hset : (μ ++ [Mo.dcn []]).set μ.length (.dcn [(k, .tup [])]) = μ ++ [.dcn [(k, .tup [])]] := by simp
  rw [hset] at w
  rw [hset]
  generalize stD .non = S0 at *
  generalize BD = B at *
  generalize hSP : SP = S at *
  simp only [bodyW, B_all_items, dropS] at w
  simp [Fall_items, B_all_items, go, hb, e_dnew, szL, p_many, putAll, w]
end
end K10
set_option Elab.async false
set_option linter.all false
set_option maxRecDepth 100000
set_option maxHeartbeats 4000000
/-! Lk10d: law k10: the end. -/
namespace K10
open PySem L2 Mi Pg Ev Dr Mm Kv
def ZB : Board := ⟨0, 0, [⟨.card, none, .print [.x, .y]⟩]⟩
theorem ZB_d : BD = ZB.d := by kernel_rfl
theorem ZB_ok : ZB.ok := by
  refine ⟨by decide, by decide, by decide, fun w hw => ?_⟩
  simp [ZB] at hw
  subst hw
  simp [Wire.ok, Act.ok, Src.ok, When.cardy]
def FA : D := .tup [.int 1000000000000000000000000000000, .int (-1000000000000000000000000000000)]
section
variable {μ : List Mo}
theorem h_last : fin (exs (dropS 5 B_holds) [.d BD, .d (.int 0), .d FA, .d (.int 2), .d SP, .un, .un, .un, .un] μ) = some (.ok (.bl false), μ) := by kernel_rfl
theorem h_c1 : kcomp (.var 5) (.name 5) (.not_ (.call Fis_whole (.cons (.var 5) (.cons (.neg (.con (.int (1000000000000000000000000000000)))) (.cons (.con (.int (1000000000000000000000000000000))) .nil))))) [5] [.d BD, .d (.int 0), .d FA, .d (.int 2), .un, .un, .un, .un, .un] [.int 1000000000000000000000000000000, .int (-1000000000000000000000000000000)] μ = some (.ok (.lst []), μ) := by kernel_rfl
theorem many2 : ∃ w1 w2 w3 w4, ixD μ BD (.int 2) = some w1 ∧ ixD μ w1 (.int 0) = some w2 ∧ ixD μ w2 (.int 2) = some w3 ∧ ixD μ w3 (.int 1) = some w4 ∧ Bi.do .len μ [w4] = some (.int 2) := ⟨_, _, _, _, rfl, rfl, rfl, rfl, rfl⟩
theorem holds_end : ∃ μ', Fholds [BD, .int 0, FA] μ = some (.ok (.bl false), μ') := by
  have e0 := need_print_yes (μ := μ) ZB_ok (i := 0) (w := ⟨.card, none, .print [.x, .y]⟩) rfl rfl
  rw [← ZB_d] at e0
  obtain ⟨μ', e1⟩ := all_ok (μ := μ)
  refine ⟨μ', ?_⟩
  obtain ⟨w1, w2, w3, w4, m1, m2, m3, m4, m5⟩ := many2 (μ := μ)
  have q := h_c1 (μ := μ)
  have l := h_last (μ := μ')
  have t1 : Bi.do .isi μ [FA, .ty "tuple"] = some (.bl true) := rfl
  have t2 : Bi.do .len μ [FA] = some (.int 2) := rfl
  have t3 : itemsD μ FA = some [.int 1000000000000000000000000000000, .int (-1000000000000000000000000000000)] := rfl
  have t4 : eqD μ (.lst []) (.lst []) = some true := by kernel_rfl
  have t5 : ∀ δ : List Sl, δ[2]? = some (.d FA) → evi (.seq (.var 2)) δ μ = some (.ok [.int 1000000000000000000000000000000, .int (-1000000000000000000000000000000)], μ) := by
    intro δ h
    have : FA = .tup [.int 1000000000000000000000000000000, .int (-1000000000000000000000000000000)] := rfl
    rw [this] at h
    simp [h]
  rw [← l]
  simp only [Int.natCast_zero, Int.cast_ofNat_Int] at e0
  have e0 : Fneed_print [BD, .int 0] μ = some (.ok .non, μ) := e0
  generalize BD = B at *
  generalize FA = F at *
  generalize SP = S at *
  simp [Fholds, B_holds, go, e0, m1, m2, m3, m4, m5, t1, t2, t4, t5, q, e1, dropS]
theorem rel_end : Frelations [BD, .int 1] μ = some (.error ("InvalidIndex", none), μ) := by
  rw [ZB_d]
  exact rel_e (need_print_no ZB_ok ⟨⟨1, rfl⟩, .inl (by decide +kernel)⟩)
theorem hF (ns : List Int) (h : ns.length ≤ 63) : ∃ μ, Flaw [.scr ns] [] = some (.ok (.bl true), μ) := by
  obtain ⟨m, hm, hm2⟩ : ∃ m : Nat, (if (if (ns.length : Int) < 14 then (ns.length : Int) else 14) > 6 then (if (ns.length : Int) < 14 then (ns.length : Int) else 14) else 6) = (m : Int) ∧ m ≤ 14 := by
    refine ⟨(if (if (ns.length : Int) < 14 then (ns.length : Int) else 14) > 6 then (if (ns.length : Int) < 14 then (ns.length : Int) else 14) else 6).toNat, ?_, ?_⟩ <;> (split <;> split) <;> omega
  obtain ⟨f1, f2, f3, f4, f5, f6, f7, f8, μ, q⟩ := loop_ok (ns := ns) (List.range m) .un .un .un .un .un .un .un .un [] (fun x hx => by have := List.mem_range.mp hx; omega)
  have hrg : rgD 0 (m : Int) = (List.range m).map fun (i : Nat) => D.int i := by unfold rgD; simp
  have hok : rgOk 0 (m : Int) = true := by unfold rgOk; simp; omega
  obtain ⟨μ', e1⟩ := holds_end (μ := μ)
  refine ⟨μ', ?_⟩
  have e2 := rel_end (μ := μ')
  have e3 := q_index (μ := μ')
  unfold BD FA at e1
  unfold BD at e2
  simp [bodyK, B_law] at q
  simp [Flaw, B_law, go, hm, hrg, hok, x_kfor, q, pow30, szL, e1, e2, e3, lab_index]
end
end K10
theorem PySem.Challenge.cw_allcards_k10_errors_of_relations_holds : PySem.Challenge.rw_allcards_k10_errors_of_relations.Holds :=
  K10.hold fun ns h _ => K10.hF ns h
