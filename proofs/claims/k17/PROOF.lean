import PyProof.Rows.All
import PyProof.Rows.IntBool
import PyProof.CallStr
import HandS.ForMost
import HandS.ExcCtx
import HandS.Deep
import HandS.TupAny
import HandS.TupLe
import HandS.TupMul
import HandS.Walk
import HandS.Zip
import HandS.Conv
import HandS.Style
import HandS.IsInst
import HandS.Flow
import HandS.Wide
import HandS.CallSlots
import HandS.Lambda
import HandS.Defaults
import KE.KeyNested
import PyProof.StrBlock2
import PyProof.DictRoadsH
import HandS.RaiseMore
import HandS.Text
import HandS.Iter
import KE.GoesEnum
import HandS.TryOnly
import HandS.Small
import HandS.CallLocal
import HandS.Comp
import HandS.ExcInit
import HandS.ExcField
import HandS.HotCalls
import PyProof.ZipIter
import PyProof.Rows.TupIter
import HandS.ExcIs
import HandS.SuiteRaise
import HandS.HeadHook4
import HandS.EndTab
import HandS.Head2
import HandS.Words
import PyProof.StrLawsIn
import PyProof.Rows.StrCase
import PyProof.Ascii
import PyProof.FitsInt
import PyProof.Rows.ReprOcc
import PySem.Challenge.RW_allcards_k17_texts_spoilt
set_option Elab.async false
set_option linter.all false
set_option maxRecDepth 100000
set_option maxHeartbeats 4000000
/-! Md: data, what stands for data on the heap, what stays. -/
namespace Mi
open PySem PySem.Spec PyProof.Rows L2
/-- data: immutable things by their contents (a list here is one that nobody changes any more), obj n: the n-th changeable thing -/
inductive D where
  | non | bl (b : Bool) | int (i : Int) | str (x : Str) | ty (n : String) | glo (x : Str)
  | tup (xs : List D) | lst (xs : List D) | obj (n : Nat) | scr (ns : List Int)
/-- what a changeable thing holds -/
inductive Mo where
  | lst (xs : List D)
  | dct (kvs : List (Str × D))
  | ins (c : Str) (fs : List (Str × D))
  | dcn (kvs : List (NestedKey × D))
/-- the world, and the tables -/
structure TW where
  w : World
  l : List (Addr × Str)
def KWT (K : PySem.W.Frag) (a : Addr) (xs : List V) : Prop :=
  ∃ (o : Obj) (its : Array Value) (n : Nat), K.lookup a = some o ∧ o.cls = .type "tuple" ∧ o.data = .seq its n ∧ its.size ≤ sizeLine ∧ Vals xs its.toList
def KWL (K : PySem.W.Frag) (a : Addr) (xs : List V) : Prop :=
  ∃ (o : Obj) (its : Array Value) (n : Nat), K.lookup a = some o ∧ o.cls = .type "list" ∧ o.dict = none ∧ o.data = .seq its n ∧ its.size ≤ sizeLine ∧ Vals xs its.toList
def TupAt (K : PySem.W.Frag) (H : Hp) (a : Addr) (xs : List V) : Prop := H a = some (.tup xs) ∨ KWT K a xs
theorem TupAt.sq {K : PySem.W.Frag} {H : Hp} {a : Addr} {xs : List V} (h : TupAt K H a xs) : SqT K H a xs := by
  rcases h with h | h
  · exact .inl (.inl h)
  · exact .inr h
def ScrAt (K : PySem.W.Frag) (ι Z : List Addr) (H : Hp) (a : Addr) (xs : List V) : Prop := (Rd H a (.lst xs) ∧ a ∉ ι ∧ a ∉ Z) ∨ KWL K a xs
theorem ScrAt.sq {K : PySem.W.Frag} {ι Z : List Addr} {H : Hp} {a : Addr} {xs : List V} (h : ScrAt K ι Z H a xs) : SqL K H a xs := by
  rcases h with h | h
  · exact .inl h.1
  · exact .inr h
mutual
def Rp (K : PySem.W.Frag) (mg : Str → Option Value) (ι Z : List Addr) (H : Hp) : D → V → Prop
  | .non, v => v = .non
  | .bl b, v => v = .bl b
  | .int i, v => v = .int i
  | .str x, v => v = .str x
  | .ty n, v => v = .ty n
  | .glo x, v => ∃ f, mg x = some (.ref f) ∧ v = .ref f
  | .tup ds, v => ∃ a vs, v = .ref a ∧ TupAt K H a vs ∧ Rps K mg ι Z H ds vs
  | .lst ds, v => ∃ a vs, v = .ref a ∧ (H a = some (.lst vs) ∧ a ∉ ι ∧ a ∉ Z) ∧ Rps K mg ι Z H ds vs
  | .obj n, v => ∃ a, v = .ref a ∧ ι[n]? = some a
  | .scr ns, v => ∃ a, v = .ref a ∧ ScrAt K ι Z H a (ns.map V.int)
def Rps (K : PySem.W.Frag) (mg : Str → Option Value) (ι Z : List Addr) (H : Hp) : List D → List V → Prop
  | [], vs => vs = []
  | d :: ds, vs => ∃ v vs', vs = v :: vs' ∧ Rp K mg ι Z H d v ∧ Rps K mg ι Z H ds vs'
end
/-! ### keys of any depth -/
mutual
def KeyAt (K : PySem.W.Frag) (H : Hp) : NestedKey → V → Prop
  | .none, v => v = .non
  | .num i, v => v = .int i ∨ ∃ b, v = .bl b ∧ i = if b = true then 1 else 0
  | .text x, v => v = .str x
  | .tup ks, v => ∃ a vs, v = .ref a ∧ TupAt K H a vs ∧ KeysAt K H ks vs
def KeysAt (K : PySem.W.Frag) (H : Hp) : List NestedKey → List V → Prop
  | [], vs => vs = []
  | k :: ks, vs => ∃ v vs', vs = v :: vs' ∧ KeyAt K H k v ∧ KeysAt K H ks vs'
end
mutual
/-- data as a key -/
def nkD : D → Option NestedKey
  | .non => some .none
  | .bl b => some (.num (if b = true then 1 else 0))
  | .int i => some (.num i)
  | .str x => some (.text x)
  | .tup ds => (nkDs ds).map .tup
  | _ => none
def nkDs : List D → Option (List NestedKey)
  | [] => some []
  | d :: ds => (nkD d).bind fun k => (nkDs ds).map fun ks => k :: ks
end
mutual
theorem KeyAt.of {K : PySem.W.Frag} {mg : Str → Option Value} {ι Z : List Addr} {H : Hp} : ∀ {d : D} {k : NestedKey} {v : V}, nkD d = some k → Rp K mg ι Z H d v → KeyAt K H k v
  | .non, k, v, h, r => by cases h; exact r
  | .bl b, k, v, h, r => by cases h; exact .inr ⟨b, r, rfl⟩
  | .int i, k, v, h, r => by cases h; exact .inl r
  | .str x, k, v, h, r => by cases h; exact r
  | .tup ds, k, v, h, r => by
    simp only [nkD, Option.map_eq_some_iff] at h
    obtain ⟨ks, h1, rfl⟩ := h
    obtain ⟨a, vs, rfl, h2, h3⟩ := r
    exact ⟨a, vs, rfl, h2, KeysAt.of h1 h3⟩
  | .lst _, _, _, h, _ => by simp [nkD] at h
  | .obj _, _, _, h, _ => by simp [nkD] at h
  | .scr _, _, _, h, _ => by simp [nkD] at h
  | .ty _, _, _, h, _ => by simp [nkD] at h
  | .glo _, _, _, h, _ => by simp [nkD] at h
theorem KeysAt.of {K : PySem.W.Frag} {mg : Str → Option Value} {ι Z : List Addr} {H : Hp} : ∀ {ds : List D} {ks : List NestedKey} {vs : List V}, nkDs ds = some ks → Rps K mg ι Z H ds vs → KeysAt K H ks vs
  | [], ks, vs, h, r => by cases h; exact r
  | d :: ds, ks, vs, h, r => by
    simp only [nkDs, Option.bind_eq_some_iff, Option.map_eq_some_iff] at h
    obtain ⟨k, h1, ks', h2, rfl⟩ := h
    obtain ⟨v, vs', rfl, h3, h4⟩ := r
    exact ⟨v, vs', rfl, KeyAt.of h1 h3, KeysAt.of h2 h4⟩
end
mutual
theorem KeyAt.mono {K : PySem.W.Frag} {H H' : Hp} (e : ∀ a xs, H a = some (.tup xs) → H' a = some (.tup xs)) : ∀ (k : NestedKey) (v : V), KeyAt K H k v → KeyAt K H' k v
  | .none, _, h => h
  | .num _, _, h => h
  | .text _, _, h => h
  | .tup ks, v, h => by
    obtain ⟨a, vs, rfl, h1, h2⟩ := h
    refine ⟨a, vs, rfl, ?_, KeysAt.mono e ks vs h2⟩
    rcases h1 with h1 | h1
    · exact .inl (e a vs h1)
    · exact .inr h1
theorem KeysAt.mono {K : PySem.W.Frag} {H H' : Hp} (e : ∀ a xs, H a = some (.tup xs) → H' a = some (.tup xs)) : ∀ (ks : List NestedKey) (vs : List V), KeysAt K H ks vs → KeysAt K H' ks vs
  | [], _, h => h
  | k :: ks, vs, h => by
    obtain ⟨v, vs', rfl, h1, h2⟩ := h
    exact ⟨v, vs', rfl, KeyAt.mono e k v h1, KeysAt.mono e ks vs' h2⟩
end
/-- an entry of a dict: key, address of the key, value -/
def NdE (w : World) (x : NestedKey × Addr × V) (e : DictEntry) : Prop := e.hash = x.1.hash w ∧ e.key = .ref x.2.1 ∧ RelV x.2.2 e.val
/-- a dict whose keys are tuples of any depth -/
def NDo (w : World) (a : Addr) (xs : List (NestedKey × Addr × V)) : HO := .ext fun h => ∃ o es ep, h.get? a = some o ∧ o.ExactDict ∧ o.data = .dict es ep ∧ Paired (NdE w) xs es.toList
/-- the entries of such a dict, and what stands for their keys -/
def NdK (K : PySem.W.Frag) (H : Hp) (p : NestedKey × D) (x : NestedKey × Addr × V) : Prop := x.1 = p.1 ∧ p.1.depth ≤ 8 ∧ KeyAt K H p.1 (.ref x.2.1)
theorem NdK.mono {K : PySem.W.Frag} {H H' : Hp} (e : ∀ a xs, H a = some (.tup xs) → H' a = some (.tup xs)) {kvs : List (NestedKey × D)} {xs : List (NestedKey × Addr × V)} (h : Paired (NdK K H) kvs xs) : Paired (NdK K H') kvs xs := by
  induction h with
  | nil => exact .nil
  | cons h _ ih => exact .cons ⟨h.1, h.2.1, KeyAt.mono e _ _ h.2.2⟩ ih
/-- what stays: all but the things at ι and at Zf; tables may grow -/
structure Ext (ι Zf : List Addr) (H : Hp) (ι' : List Addr) (H' : Hp) : Prop where
  ids : ∃ l, ι' = ι ++ l ∧ ∀ p ∈ l, H p = none
  keep : ∀ a o, H a = some o → a ∉ ι → a ∉ Zf → (∀ ps, o ≠ .tbl ps) → H' a = some o
  there : ∀ a o, H a = some o → ∃ o', H' a = some o'
  tups : ∀ a xs, H a = some (.tup xs) → H' a = some (.tup xs)
theorem Ext.refl {ι Zf : List Addr} {H : Hp} : Ext ι Zf H ι H :=
  ⟨⟨[], by simp, by simp⟩, fun _ _ h _ _ _ => h, fun _ o h => ⟨o, h⟩, fun _ _ h => h⟩
theorem Ext.free {ι Zf : List Addr} {H : Hp} {ι' : List Addr} {H' : Hp} (e : Ext ι Zf H ι' H') {a : Addr} (h : H' a = none) : H a = none := by
  cases q : H a with
  | none => rfl
  | some o => obtain ⟨o', z⟩ := e.there a o q; rw [h] at z; cases z
theorem Ext.mono {ι Zf Zg : List Addr} {H : Hp} {ι' : List Addr} {H' : Hp} (e : Ext ι Zf H ι' H') (h : ∀ z ∈ Zf, z ∈ Zg) : Ext ι Zg H ι' H' :=
  ⟨e.ids, fun a o q h1 h2 => e.keep a o q h1 fun z => h2 (h a z), e.there, e.tups⟩
/-- the changed places of the second step: at Zf, or new -/
theorem Ext.trans {ι Zf Zg : List Addr} {H H1 H2 : Hp} {ι1 ι2 : List Addr} (e : Ext ι Zf H ι1 H1) (f : Ext ι1 Zg H1 ι2 H2) (hz : ∀ z ∈ Zg, z ∈ Zf ∨ H z = none) : Ext ι Zf H ι2 H2 := by
  obtain ⟨l1, rfl, h1⟩ := e.ids
  obtain ⟨l2, rfl, h2⟩ := f.ids
  refine ⟨⟨l1 ++ l2, by rw [List.append_assoc], fun p hp => ?_⟩, fun a o q n1 n2 nt => ?_, fun a o q => ?_, fun a xs q => f.tups a xs (e.tups a xs q)⟩
  · rcases List.mem_append.mp hp with z | z
    · exact h1 p z
    · exact e.free (h2 p z)
  · have k1 := e.keep a o q n1 n2 nt
    refine f.keep a o k1 (fun z => ?_) (fun z => ?_) nt
    · rcases List.mem_append.mp z with z | z
      · exact n1 z
      · rw [h1 a z] at q; cases q
    · rcases hz a z with z | z
      · exact n2 z
      · rw [z] at q; cases q
  · obtain ⟨o1, q1⟩ := e.there a o q
    exact f.there a o1 q1
theorem Ext.trans0 {ι Zf : List Addr} {H H1 H2 : Hp} {ι1 ι2 : List Addr} (e : Ext ι Zf H ι1 H1) (f : Ext ι1 [] H1 ι2 H2) : Ext ι Zf H ι2 H2 :=
  e.trans f (by simp)
section
variable {w : World} {K : PySem.W.Frag} {mg : Str → Option Value} {ι Z Zf ι' Z' : List Addr} {H H' : Hp}
theorem TupAt.ext {a : Addr} {xs : List V} (h : TupAt K H a xs) (e : Ext ι Zf H ι' H') : TupAt K H' a xs := by
  rcases h with h | h
  · exact .inl (e.tups a xs h)
  · exact .inr h
theorem Ext.notin (e : Ext ι Zf H ι' H') {a : Addr} {o : HO} (q : H a = some o) (n : a ∉ ι) : a ∉ ι' := by
  obtain ⟨l, rfl, h⟩ := e.ids
  intro z
  rcases List.mem_append.mp z with z | z
  · exact n z
  · rw [h a z] at q; cases q
mutual
theorem Rp.ext (e : Ext ι Zf H ι' H') (hf : ∀ z ∈ Zf, z ∈ Z) (hz : ∀ z ∈ Z', z ∈ Z ∨ H z = none) : ∀ (d : D) (v : V), Rp K mg ι Z H d v → Rp K mg ι' Z' H' d v
  | .non, _, h => h
  | .bl _, _, h => h
  | .int _, _, h => h
  | .str _, _, h => h
  | .ty _, _, h => h
  | .glo _, _, h => h
  | .tup ds, v, h => by
    obtain ⟨a, vs, rfl, h1, h2⟩ := h
    exact ⟨a, vs, rfl, h1.ext e, Rps.ext e hf hz ds vs h2⟩
  | .lst ds, v, h => by
    obtain ⟨a, vs, rfl, ⟨h1, h2, h3⟩, h4⟩ := h
    refine ⟨a, vs, rfl, ⟨e.keep a _ h1 h2 (fun z => h3 (hf a z)) (fun _ z => nomatch z), e.notin h1 h2, fun z => ?_⟩, Rps.ext e hf hz ds vs h4⟩
    rcases hz a z with z | z
    · exact h3 z
    · rw [z] at h1; cases h1
  | .obj n, v, h => by
    obtain ⟨a, rfl, h1⟩ := h
    obtain ⟨l, rfl, _⟩ := e.ids
    refine ⟨a, rfl, ?_⟩
    rw [List.getElem?_append_left]
    · exact h1
    · exact (List.getElem?_eq_some_iff.mp h1).1
  | .scr ns, v, h => by
    obtain ⟨a, rfl, h1⟩ := h
    refine ⟨a, rfl, ?_⟩
    rcases h1 with ⟨h1, h2, h3⟩ | h1
    · obtain ⟨o, q, hr⟩ : ∃ o, H a = some o ∧ (H' a = some o → Rd H' a (.lst (ns.map V.int))) := by
        rcases h1 with h1 | ⟨o, h1⟩
        · exact ⟨_, h1, fun z => .inl z⟩
        · exact ⟨_, h1, fun z => .inr ⟨o, z⟩⟩
      refine .inl ⟨hr (e.keep a o q h2 (fun z => h3 (hf a z)) fun ps z => ?_), e.notin q h2, fun z => ?_⟩
      · subst z
        rcases h1 with h1 | ⟨_, h1⟩
        · rw [q] at h1; cases h1
        · rw [q] at h1; cases h1
      · rcases hz a z with z | z
        · exact h3 z
        · rw [z] at q; cases q
    · exact .inr h1
theorem Rps.ext (e : Ext ι Zf H ι' H') (hf : ∀ z ∈ Zf, z ∈ Z) (hz : ∀ z ∈ Z', z ∈ Z ∨ H z = none) : ∀ (ds : List D) (vs : List V), Rps K mg ι Z H ds vs → Rps K mg ι' Z' H' ds vs
  | [], _, h => h
  | d :: ds, vs, h => by
    obtain ⟨v, vs', rfl, h1, h2⟩ := h
    exact ⟨v, vs', rfl, Rp.ext e hf hz d v h1, Rps.ext e hf hz ds vs' h2⟩
end
theorem Rp.ext0 (e : Ext ι [] H ι' H') {d : D} {v : V} (h : Rp K mg ι Z H d v) : Rp K mg ι' Z H' d v := Rp.ext e (by simp) (fun _ z => .inl z) d v h
theorem Rps.ext0 (e : Ext ι [] H ι' H') {d : List D} {v : List V} (h : Rps K mg ι Z H d v) : Rps K mg ι' Z H' d v := Rps.ext e (by simp) (fun _ z => .inl z) d v h
theorem Rp.weak (hz : ∀ z ∈ Z', z ∈ Z) {d : D} {v : V} (h : Rp K mg ι Z H d v) : Rp K mg ι Z' H d v := Rp.ext (Zf := []) Ext.refl (by simp) (fun z q => .inl (hz z q)) d v h
theorem Rps.weak (hz : ∀ z ∈ Z', z ∈ Z) {d : List D} {v : List V} (h : Rps K mg ι Z H d v) : Rps K mg ι Z' H d v := Rps.ext (Zf := []) Ext.refl (by simp) (fun z q => .inl (hz z q)) d v h
theorem Rps.length : ∀ {ds : List D} {vs : List V}, Rps K mg ι Z H ds vs → ds.length = vs.length
  | [], _, h => by rw [h]; rfl
  | _ :: ds, _, h => by
    obtain ⟨v, vs', rfl, _, h2⟩ := h
    simp [Rps.length h2]
theorem Rps.get : ∀ {ds : List D} {vs : List V} {i : Nat} {d : D}, Rps K mg ι Z H ds vs → ds[i]? = some d → ∃ v, vs[i]? = some v ∧ Rp K mg ι Z H d v
  | [], _, _, _, _, e => by simp at e
  | _ :: ds, _, i, d, h, e => by
    obtain ⟨v, vs', rfl, h1, h2⟩ := h
    cases i with
    | zero => simp at e; subst e; exact ⟨v, by simp, h1⟩
    | succ i =>
      obtain ⟨w, e1, e2⟩ := Rps.get (i := i) h2 (by simpa using e)
      exact ⟨w, by simpa using e1, e2⟩
theorem Rps.append : ∀ {ds es : List D} {vs ws : List V}, Rps K mg ι Z H ds vs → Rps K mg ι Z H es ws → Rps K mg ι Z H (ds ++ es) (vs ++ ws)
  | [], _, _, _, h, g => by rw [h]; exact g
  | _ :: ds, _, _, _, h, g => by
    obtain ⟨v, vs', rfl, h1, h2⟩ := h
    exact ⟨v, vs' ++ _, rfl, h1, Rps.append h2 g⟩
theorem Rps.take : ∀ {ds : List D} {vs : List V} (n : Nat), Rps K mg ι Z H ds vs → Rps K mg ι Z H (ds.take n) (vs.take n)
  | [], _, _, h => by rw [h]; simp [Rps]
  | _ :: ds, _, 0, h => by simp [Rps]
  | _ :: ds, _, n + 1, h => by
    obtain ⟨v, vs', rfl, h1, h2⟩ := h
    exact ⟨v, vs'.take n, rfl, h1, Rps.take n h2⟩
theorem Rps.drop : ∀ {ds : List D} {vs : List V} (n : Nat), Rps K mg ι Z H ds vs → Rps K mg ι Z H (ds.drop n) (vs.drop n)
  | [], _, _, h => by rw [h]; simp [Rps]
  | _ :: ds, _, 0, h => h
  | _ :: ds, _, n + 1, h => by
    obtain ⟨v, vs', rfl, h1, h2⟩ := h
    exact Rps.drop n h2
theorem Rps.nil_iff {ds : List D} {vs : List V} (h : Rps K mg ι Z H ds vs) : vs = [] ↔ ds = [] := by
  have e := h.length
  constructor
  · intro z; subst z; exact List.length_eq_zero_iff.mp e
  · intro z; subst z; exact List.length_eq_zero_iff.mp e.symm
theorem Rps.one {d : D} {vs : List V} (h : Rps K mg ι Z H [d] vs) : ∃ v, vs = [v] ∧ Rp K mg ι Z H d v := by
  obtain ⟨v, vs', rfl, h1, h2⟩ := h
  rw [show vs' = [] from h2]
  exact ⟨v, rfl, h1⟩
theorem Rps.set : ∀ {ds : List D} {vs : List V} {d : D} {v : V} (i : Nat), Rps K mg ι Z H ds vs → Rp K mg ι Z H d v → Rps K mg ι Z H (ds.set i d) (vs.set i v)
  | [], _, _, _, _, h, _ => by rw [h]; simp [Rps]
  | _ :: ds, _, _, _, 0, h, g => by
    obtain ⟨v, vs', rfl, h1, h2⟩ := h
    exact ⟨_, vs', rfl, g, h2⟩
  | _ :: ds, _, _, _, i + 1, h, g => by
    obtain ⟨v, vs', rfl, h1, h2⟩ := h
    exact ⟨v, vs'.set i _, rfl, h1, Rps.set i h2 g⟩
theorem Rps.ints : ∀ (ns : List Int), Rps K mg ι Z H (ns.map D.int) (ns.map V.int)
  | [] => rfl
  | n :: ns => ⟨_, _, rfl, rfl, Rps.ints ns⟩
theorem Rps.ints_inv : ∀ {ns : List Int} {vs : List V}, Rps K mg ι Z H (ns.map D.int) vs → vs = ns.map V.int
  | [], _, h => h
  | n :: ns, _, h => by
    obtain ⟨v, vs', rfl, h1, h2⟩ := h
    rw [Rps.ints_inv h2, show v = V.int n from h1]; rfl
/-- what a changeable thing is on the heap -/
def RpM (w : World) (K : PySem.W.Frag) (mg : Str → Option Value) (ι Z : List Addr) (H : Hp) (a : Addr) : Mo → Prop
  | .lst ds => ∃ vs, H a = some (.lst vs) ∧ Rps K mg ι Z H ds vs
  | .dct kvs => ∃ vs, H a = some (.dK ((kvs.map fun p => (Sum.inr p.1 : Key)).zip vs)) ∧ Rps K mg ι Z H (kvs.map (·.2)) vs
  | .ins c fs => ∃ C dx vs, mg c = some (.ref C) ∧ H a = some (.ins C dx ((fs.map (·.1)).zip vs)) ∧ Rps K mg ι Z H (fs.map (·.2)) vs
  | .dcn kvs => ∃ xs, H a = some (NDo w a xs) ∧ (a == sysModules) = false ∧ (kvs.map (·.1)).Nodup ∧ Paired (NdK K H) kvs xs ∧ Rps K mg ι Z H (kvs.map (·.2)) (xs.map (·.2.2))
theorem RpM.at {a : Addr} {m : Mo} (h : RpM w K mg ι Z H a m) : ∃ o, H a = some o ∧ (∀ xs, o ≠ .tup xs) ∧ (∀ ps, o ≠ .tbl ps) ∧ (∀ x, o ≠ .own x) := by
  cases m with
  | lst ds => obtain ⟨vs, h1, _⟩ := h; exact ⟨_, h1, (fun _ z => by cases z), (fun _ z => by cases z), (fun _ z => by cases z)⟩
  | dct kvs => obtain ⟨vs, h1, _⟩ := h; exact ⟨_, h1, (fun _ z => by cases z), (fun _ z => by cases z), (fun _ z => by cases z)⟩
  | ins c fs => obtain ⟨C, dx, vs, _, h1, _⟩ := h; exact ⟨_, h1, (fun _ z => by cases z), (fun _ z => by cases z), (fun _ z => by cases z)⟩
  | dcn kvs => obtain ⟨xs, h1, _⟩ := h; exact ⟨_, h1, (fun _ z => by cases z), (fun _ z => by cases z), (fun _ z => by cases z)⟩
/-- the thing itself stood, the rest as e tells -/
theorem RpM.ext (e : Ext ι Zf H ι' H') (hf : ∀ z ∈ Zf, z ∈ Z) (hz : ∀ z ∈ Z', z ∈ Z ∨ H z = none) {a : Addr} {m : Mo} (ha : H' a = H a) (h : RpM w K mg ι Z H a m) : RpM w K mg ι' Z' H' a m := by
  cases m with
  | lst ds => obtain ⟨vs, h1, h2⟩ := h; exact ⟨vs, ha.trans h1, Rps.ext e hf hz _ _ h2⟩
  | dct kvs => obtain ⟨vs, h1, h2⟩ := h; exact ⟨vs, ha.trans h1, Rps.ext e hf hz _ _ h2⟩
  | ins c fs => obtain ⟨C, dx, vs, h0, h1, h2⟩ := h; exact ⟨C, dx, vs, h0, ha.trans h1, Rps.ext e hf hz _ _ h2⟩
  | dcn kvs => obtain ⟨xs, h1, h2, h3, h4, h5⟩ := h; exact ⟨xs, ha.trans h1, h2, h3, NdK.mono e.tups h4, Rps.ext e hf hz _ _ h5⟩
end
/-- the changeable things, the lists that are held by one name alone (Z), the tables -/
structure RG (K : PySem.W.Frag) (mg : Str → Option Value) (T : TW) (ι Z : List Addr) (H : Hp) (μ : List Mo) : Prop where
  nd : ι.Nodup
  len : ι.length = μ.length
  mem : ∀ (n : Nat) (m : Mo), μ[n]? = some m → ∃ a, ι[n]? = some a ∧ RpM T.w K mg ι Z H a m
  zl : ∀ z ∈ Z, (∃ vs, H z = some (.lst vs)) ∧ z ∉ ι
  tabs : LamX.Tabs T.l H
end Mi
set_option Elab.async false
set_option linter.all false
set_option maxRecDepth 100000
set_option maxHeartbeats 4000000
/-! Mc: a small language over data: its terms, what they come to, and how they are read off the text. -/
namespace Mi
open PySem L2
/-! ### operators by values -/
mutual
def py0 : D → Option PyData
  | .non => some .none
  | .bl b => some (.bool b)
  | .int i => some (.int i)
  | .str x => some (.str x)
  | .tup xs => (py0s xs).map .tuple
  | .lst xs => (py0s xs).map .list
  | _ => none
def py0s : List D → Option (List PyData)
  | [] => some []
  | x :: xs => (py0 x).bind fun a => (py0s xs).map fun as => a :: as
end
/-- a changeable list, read -/
def see (μ : List Mo) : D → D
  | .obj n => (match μ[n]? with
    | some (.lst xs) => .lst xs
    | _ => .obj n)
  | d => d
def eqD (μ : List Mo) (a b : D) : Option Bool := (py0 (see μ a)).bind fun p => (py0 (see μ b)).bind fun q =>
  if (SeqAt.shaped p && SeqAt.shaped q) = true then some (PyData.eqv p q) else none
/-- a tuple as a key of a dict -/
def nkT : D → Option NestedKey
  | .tup ds => (nkD (.tup ds)).bind fun k => if k.depth ≤ 8 then some k else none
  | _ => none
def lookN (kvs : List (NestedKey × D)) (k : NestedKey) : Option D := (kvs.find? fun p => decide (p.1 = k)).map (·.2)
def putN (kvs : List (NestedKey × D)) (k : NestedKey) (v : D) : List (NestedKey × D) := if (lookN kvs k).isSome = true then kvs.map (fun p => if p.1 = k then (p.1, v) else p) else kvs ++ [(k, v)]
def inD (μ : List Mo) (a b : D) : Option Bool := match see μ b with
  | .obj n => (match μ[n]? with
    | some (.dcn kvs) => (nkT a).map fun k => (lookN kvs k).isSome
    | _ => none)
  | .str z => (match a with
    | .str x => some (!(Builtin.Str.occurrences z x 0 z.length 1).isEmpty)
    | _ => none)
  | .tup ds => (py0 (see μ a)).bind fun p => (py0s ds).bind fun qs => if (SeqAt.shaped p && SeqAt.shaped (.tuple qs)) = true then some (qs.any fun z => PyData.eqv z p) else none
  | .lst ds => (py0 (see μ a)).bind fun p => (py0s ds).bind fun qs => if (SeqAt.shaped p && SeqAt.shaped (.list qs)) = true then some (qs.any fun z => PyData.eqv z p) else none
  | _ => none
def intsOf : List D → Option (List Int)
  | [] => some []
  | .int i :: ds => (intsOf ds).map fun ns => i :: ns
  | _ :: _ => none
inductive Cm | lt | le | gt | ge
def Cm.int : Cm → Int → Int → Bool
  | .lt, i, j => decide (i < j)
  | .le, i, j => decide (i ≤ j)
  | .gt, i, j => decide (j < i)
  | .ge, i, j => decide (j ≤ i)
/-- tuples of ints, from the first pair that differs on -/
def lexC (c : Cm) : List Int → List Int → Bool
  | [], [] => c.int 0 0
  | [], _ :: _ => c.int 0 1
  | _ :: _, [] => c.int 1 0
  | x :: xs, y :: ys => if x = y then lexC c xs ys else c.int x y
def cmD (c : Cm) (a b : D) : Option Bool := match a, b with
  | .int i, .int j => some (c.int i j)
  | .tup xs, .tup ys => (intsOf xs).bind fun ns => (intsOf ys).map fun ms => lexC c ns ms
  | _, _ => none
def small64 (i : Int) : Bool := decide (-(2 ^ 64) < i ∧ i < 2 ^ 64)
def mulOk (i j : Int) : Bool := small64 i || small64 j || decide (i.natAbs.log2 + j.natAbs.log2 < 1000000)
def addD (μ : List Mo) (a b : D) : Option D := match see μ a, see μ b with
  | .int i, .int j => some (.int (i + j))
  | .bl i, .int j => some (.int ((if i = true then (1 : Int) else 0) + j))
  | .str x, .str y => if x.length + y.length ≤ sizeLine then some (.str (x ++ y)) else none
  | .tup xs, .tup ys => if xs.length + ys.length ≤ sizeLine then some (.tup (xs ++ ys)) else none
  | .lst xs, .lst ys => if xs.length + ys.length ≤ sizeLine then some (.lst (xs ++ ys)) else none
  | _, _ => none
def mulD (a b : D) : Option D := match a, b with
  | .int i, .int j => if mulOk i j = true then some (.int (i * j)) else none
  | .int i, .bl j => some (.int (i * if j = true then (1 : Int) else 0))
  | .str x, .int k => if (decide (2 ≤ k) && decide (k ≤ 1000) && decide (x.length ≤ 1000)) = true then some (.str (Txt.mul x k)) else none
  | .tup xs, .int k => if (decide (-(2 ^ 63) ≤ k) && decide (k ≤ 1000) && decide (xs.length ≤ 1000)) = true then some (.tup (List.replicate k.toNat xs).flatten) else none
  | .lst xs, .int k => if (decide (-(2 ^ 63) ≤ k) && decide (k < 2 ^ 63) && decide (xs.length * k.toNat ≤ sizeLine)) = true then some (.lst (List.replicate k.toNat xs).flatten) else none
  | _, _ => none
/-- what may be divided by what -/
def fdOk (i j : Int) : Bool := decide (j ≠ 0) && !Builtin.divisionGoesByPylong i j
inductive Op | add | sub | mul | fdiv | mod | pow | eq | ne | cm (c : Cm) | in_ | nin | is_ | isn
def isD (a b : D) : Option Bool := match a, b with
  | .bl x, .bl y => some (decide (x = y))
  | .non, .non => some true
  | .bl _, .non => some false
  | .int _, .non => some false
  | .str _, .non => some false
  | .tup _, .non => some false
  | .lst _, .non => some false
  | .obj _, .non => some false
  | _, _ => none
def Op.do (o : Op) (μ : List Mo) (a b : D) : Option D := match o with
  | .add => addD μ a b
  | .sub => (match a, b with
    | .int i, .int j => some (.int (i - j))
    | .bl i, .int j => some (.int ((if i = true then (1 : Int) else 0) - j))
    | _, _ => none)
  | .mul => mulD a b
  | .fdiv => (match a, b with
    | .int i, .int j => if (decide (0 < j) && decide (j.natAbs.log2 < 9000)) = true then some (.int (i / j)) else if fdOk i j = true then some (.int (i.fdiv j)) else none
    | _, _ => none)
  | .mod => (match a, b with
    | .int i, .int j => if 0 < j then some (.int (i % j)) else none
    | _, _ => none)
  | .pow => (match a, b with
    | .int i, .int j => if (decide (0 ≤ j) && decide (j ≤ 1000000) && decide (i.natAbs < 2 ^ 64)) = true then some (.int (i ^ j.toNat)) else none
    | _, _ => none)
  | .eq => (eqD μ a b).map .bl
  | .ne => (eqD μ a b).map fun r => .bl (!r)
  | .cm c => (cmD c a b).map .bl
  | .in_ => (inD μ a b).map .bl
  | .nin => (inD μ a b).map fun r => .bl (!r)
  | .is_ => (isD a b).map .bl
  | .isn => (isD a b).map fun r => .bl (!r)
/-! ### built-ins by values -/
def lenD (μ : List Mo) : D → Option Nat
  | .tup xs => some xs.length
  | .lst xs => some xs.length
  | .scr ns => some ns.length
  | .str x => if x.length ≤ sizeLine then some x.length else none
  | .obj n => (match μ[n]? with
    | some (.lst xs) => some xs.length
    | some (.dct kvs) => some kvs.length
    | _ => none)
  | _ => none
/-- the name of a value's class -/
def tyD (μ : List Mo) : D → Option String
  | .non => some "NoneType"
  | .bl _ => some "bool"
  | .int _ => some "int"
  | .str _ => some "str"
  | .tup _ => some "tuple"
  | .lst _ => some "list"
  | .obj n => (match μ[n]? with
    | some (.lst _) => some "list"
    | some (.dct _) => some "dict"
    | _ => none)
  | _ => none
def isiD (μ : List Mo) (a b : D) : Option Bool := match b with
  | .ty n => (tyD μ a).bind fun t => L2.kitB t n
  | _ => none
inductive Bi | len | abs | int | str | min | max | sum | list | tuple | isi | any | bool | upper | split | join
def strsOf : List D → Option (List Str)
  | [] => some []
  | .str x :: ds => (strsOf ds).map fun xs => x :: xs
  | _ :: _ => none
def Bi.do (f : Bi) (μ : List Mo) : List D → Option D
  | [a] => (match f with
    | .len => (lenD μ a).map fun n => .int n
    | .abs => (match a with
      | .int i => some (.int (if i < 0 then -i else i))
      | _ => none)
    | .int => (match a with
      | .int i => some (.int i)
      | .bl b => some (.int (if b = true then 1 else 0))
      | .str x => if x.length ≤ 640 then (PySem.intText? x).map .int else none
      | _ => none)
    | .str => (match a with
      | .int i => if i.natAbs.log2 < 1920 then some (.str (toString i)) else none
      | .str x => some (.str x)
      | .bl b => some (.str (if b = true then "True" else "False"))
      | _ => none)
    | .upper => (match a with
      | .str x => if x.length ≤ 5592405 then some (.str (Txt.upper x)) else none
      | _ => none)
    | .sum => (match see μ a with
      | .lst xs => (intsOf xs).map fun ns => .int ns.sum
      | _ => none)
    | .list => (match see μ a with
      | .lst xs => some (.lst xs)
      | .tup xs => some (.lst xs)
      | .str x => if x.length ≤ 1000 then some (.lst (x.cps.toList.map fun c => .str ⟨#[c]⟩)) else none
      | _ => none)
    | .tuple => (match see μ a with
      | .lst xs => some (.tup xs)
      | .tup xs => some (.tup xs)
      | _ => none)
    | .bool => (match a with
      | .bl b => some (.bl b)
      | _ => none)
    | _ => none)
  | [a, b] => (match f with
    | .min => (match a, b with
      | .int i, .int j => some (.int (if j < i then j else i))
      | _, _ => none)
    | .max => (match a, b with
      | .int i, .int j => some (.int (if j > i then j else i))
      | _, _ => none)
    | .isi => (isiD μ a b).map .bl
    | .split => (match a, b with
      | .str x, .str y => if (!(y.length == 0) && decide (x.length + 2 ≤ sizeLine)) = true then some (.lst ((Txt.split x y).map .str)) else none
      | _, _ => none)
    | .join => (match a, see μ b with
      | .str x, .lst ds => (strsOf ds).bind fun ys => if (ys.map (·.length)).sum + ys.length * x.length ≤ 16777216 then some (.str (Txt.join x ys)) else none
      | .str x, .tup ds => (strsOf ds).bind fun ys => if (ys.map (·.length)).sum + ys.length * x.length ≤ 16777216 then some (.str (Txt.join x ys)) else none
      | _, _ => none)
    | _ => none)
  | _ => none
def ixD (μ : List Mo) (a i : D) : Option D := match see μ a, i with
  | .tup xs, .int j => L2.atI xs j
  | .lst xs, .int j => L2.atI xs j
  | .scr ns, .int j => (L2.atI ns j).map .int
  | .str z, .int j => if z.length ≤ sizeLine then (L2.atI z.cps.toList j).map fun c => .str ⟨#[c]⟩ else none
  | .obj n, .str z => (match μ[n]? with
    | some (.dct kvs) => kvs.lookup z
    | _ => none)
  | .obj n, .tup ds => (match μ[n]? with
    | some (.dcn kvs) => (nkT (.tup ds)).bind (lookN kvs)
    | _ => none)
  | _, _ => none
/-- whether a thing is a dict with keys of any depth -/
def isDcn (μ : List Mo) : D → Bool
  | .obj n => (match μ[n]? with
    | some (.dcn _) => true
    | _ => false)
  | _ => false
/-- d.get(k, x) -/
def getN (μ : List Mo) (a k x : D) : Option D := match a with
  | .obj n => (match μ[n]? with
    | some (.dcn kvs) => (nkT k).map fun k => (lookN kvs k).getD x
    | _ => none)
  | _ => none
/-- the pairs of a dict with text keys -/
def dctOf (μ : List Mo) : D → Option (List (Str × D))
  | .obj n => (match μ[n]? with
    | some (.dct kvs) => if (decide (kvs.length ≤ 1000) && decide (kvs.map (·.1)).Nodup) = true then some kvs else none
    | _ => none)
  | _ => none
/-- the items of a list or a tuple -/
def itemsD (μ : List Mo) (a : D) : Option (List D) := match see μ a with
  | .lst xs => some xs
  | .tup xs => some xs
  | _ => none
def cutL {α : Type} (xs : List α) (lo hi : Option Int) : List α := (xs.drop (HT.sIx xs.length 0 lo)).take (HT.sIx xs.length xs.length hi - HT.sIx xs.length 0 lo)
def slD (μ : List Mo) (a : D) (l h : Option Int) : Option D := match see μ a with
  | .tup xs => some (.tup (cutL xs l h))
  | .lst xs => some (.lst (cutL xs l h))
  | .str z => if z.length ≤ sizeLine then some (.str (L2.cutS z l h)) else none
  | _ => none
def revD (μ : List Mo) (a : D) : Option D := match see μ a with
  | .lst xs => some (.lst xs.reverse)
  | .tup xs => some (.tup xs.reverse)
  | _ => none
/-! ### terms -/
/-- an exception of a class of one's own: its name, what its attribute holds -/
abbrev Ex := Str × Option D
abbrev RM (α : Type) := Option (Except Ex α × List Mo)
@[reducible] def bindR {α β : Type} (x : RM α) (f : α → List Mo → RM β) : RM β := match x with
  | none => none
  | some (.error e, μ) => some (.error e, μ)
  | some (.ok a, μ) => f a μ
def retR {α : Type} (a : α) (μ : List Mo) : RM α := some (.ok a, μ)
def optR {α : Type} (a : Option α) (μ : List Mo) : RM α := a.bind fun a => some (.ok a, μ)
/-- what a def comes to -/
abbrev Sem := List D → List Mo → RM D
/-- what a slot holds: nothing that is known; data; a list that it alone holds -/
inductive Sl | un | d (x : D) | lin (xs : List D)
inductive Tg
  | name (i : Nat)
  | pair (a b : Tg)
  | trip (a b c : Tg)
  | many (is : List Nat)
mutual
inductive E
  | var (i : Nat) | con (d : D)
  | op (o : Op) (a b : E) | neg (a : E) | not_ (a : E) | and_ (a b : E) | or_ (a b : E) | ite (c a b : E)
  | chain (o o' : Op) (a b c : E)
  | idx (a b : E) | lidx (i : Nat) (b : E) | slc (a : E) (lo hi : Eo) | rev (a : E)
  | tup (es : Es) | lst (es : Es) | mlst (es : Es)
  | call (F : Sem) (es : Es) | bi (f : Bi) (es : Es)
  | comp (elt : E) (tg : Tg) (it : It) (cond : E) (own : List Nat)
  | lrng (a : E)
  | err (nms : List (Str × Str)) (e : E)
  | meth (f : Bi) (o : E) (es : Es)
  | mrep (x k : E) | dct (ks : List Str) (es : Es)
  | nott (a : E)
  | dyn (i : Nat) (tb : List (Str × Nat × Sem)) (es : Es)
  | dnew | dget (o k x : E) | mcp (e : E) | dcp (i : Nat) (e : E)
  | compn (elt : E) (tg : Tg) (it : It) (cond : E) (cl : Cl) (own : List Nat)
inductive Es | nil | cons (e : E) (es : Es)
inductive Eo | no | yes (e : E)
/-- the clauses behind the first one of a comprehension -/
inductive Cl | nil | cons (tg : Tg) (it : It) (cond : E) (vs : List Nat) (cl : Cl)
inductive It | seq (e : E) | rng (a : E) | rng2 (a b : E) | enum (e : E) | zip (a b : E)
end
def wipeS (δ : List Sl) : List Nat → List Sl
  | [] => δ
  | v :: vs => (wipeS δ vs).set v .un
def putAll : List Nat → List D → List Sl → Option (List Sl)
  | [], [], δ => some δ
  | i :: is, d :: ds, δ => putAll is ds (δ.set i (.d d))
  | _, _, _ => none
def Tg.put : Tg → D → List Sl → Option (List Sl)
  | .name i, d, δ => some (δ.set i (.d d))
  | .pair s t, .tup [a, b], δ => (s.put a δ).bind fun δ => t.put b δ
  | .pair s t, .lst [a, b], δ => (s.put a δ).bind fun δ => t.put b δ
  | .trip s t u, .tup [a, b, c], δ => (s.put a δ).bind fun δ => (t.put b δ).bind fun δ => u.put c δ
  | .many is, .tup ds, δ => putAll is ds δ
  | _, _, _ => none
def Tg.slots : Tg → List Nat
  | .name i => [i]
  | .pair a b => a.slots ++ b.slots
  | .trip a b c => a.slots ++ (b.slots ++ c.slots)
  | .many is => is
/-- truth -/
def truD : D → Option Bool
  | .bl b => some b
  | .int i => some (!(i == 0))
  | _ => none
/-- no exception -/
def noE {α : Type} : RM α → Option (α × List Mo)
  | some (.ok a, μ) => some (a, μ)
  | _ => none
/-- the turns of a comprehension: keep tells whether, elt what -/
def compL (tg : Tg) (keep elt : List Sl → List Mo → RM D) (δ : List Sl) : List D → List D → List Mo → RM D
  | [], acc, μ => retR (.lst acc) μ
  | x :: xs, acc, μ => (tg.put x δ).bind fun δ1 => (noE (keep δ1 μ)).bind fun r => match r.1 with
    | .bl true => (noE (elt δ1 r.2)).bind fun q => if acc.length < sizeLine then compL tg keep elt δ xs (acc ++ [q.1]) q.2 else none
    | .bl false => compL tg keep elt δ xs acc r.2
    | _ => none
/-- the turns of a clause: what is told, and the items so far -/
def clsL (tg : Tg) (keep : List Sl → List Mo → RM D) (body : List Sl → List D → List Mo → Option (List D × List Mo)) (δ : List Sl) : List D → List D → List Mo → Option (List D × List Mo)
  | [], acc, μ => some (acc, μ)
  | x :: xs, acc, μ => (tg.put x δ).bind fun δ1 => (noE (keep δ1 μ)).bind fun r => match r.1 with
    | .bl true => (body δ1 acc r.2).bind fun q => clsL tg keep body δ xs q.1 q.2
    | .bl false => clsL tg keep body δ xs acc r.2
    | _ => none
/-- an item more -/
def oneL (elt : List Sl → List Mo → RM D) (δ : List Sl) (acc : List D) (μ : List Mo) : Option (List D × List Mo) := (noE (elt δ μ)).bind fun q => if acc.length < sizeLine then some (acc ++ [q.1], q.2) else none
def endL : Option (List D × List Mo) → RM D
  | some (acc, μ) => retR (.lst acc) μ
  | none => none
def rgD (a b : Int) : List D := (List.range (b - a).toNat).map fun (i : Nat) => D.int (a + i)
def rgOk (i j : Int) : Bool := decide (-(2 ^ 62) ≤ i) && decide (i < 2 ^ 62) && decide (-(2 ^ 62) ≤ j) && decide (j < 2 ^ 62)
def enumD (ds : List D) : List D := (List.range ds.length).zipWith (fun (i : Nat) d => D.tup [.int i, d]) ds
def zipD (xs ys : List D) : List D := xs.zipWith (fun x y => D.tup [x, y]) ys
/-- the items of a thing that is walked: true: a tuple -/
def seqD (μ : List Mo) (a : D) : Option (List D) := match see μ a with
  | .tup xs => some xs
  | .lst xs => some xs
  | _ => none
def enumK : D → Option (List D)
  | .lst xs => some (enumD xs)
  | .tup xs => some (enumD xs)
  | _ => none
def zipK : D → D → Option (List D)
  | .lst xs, .lst ys => some (zipD xs ys)
  | .tup xs, .tup ys => some (zipD xs ys)
  | _, _ => none
mutual
def ev : E → List Sl → List Mo → RM D
  | .var i, δ, μ => (match δ[i]? with
    | some (.d x) => retR x μ
    | _ => none)
  | .con d, _, μ => retR d μ
  | .op o a b, δ, μ => bindR (ev a δ μ) fun x μ => bindR (ev b δ μ) fun y μ => optR (o.do μ x y) μ
  | .neg a, δ, μ => bindR (ev a δ μ) fun x μ => (match x with
    | .int i => retR (.int (-i)) μ
    | _ => none)
  | .not_ a, δ, μ => bindR (ev a δ μ) fun x μ => (match x with
    | .bl b => retR (.bl (!b)) μ
    | _ => none)
  | .and_ a b, δ, μ => bindR (ev a δ μ) fun x μ => (match x with
    | .bl true => ev b δ μ
    | .bl false => retR (.bl false) μ
    | _ => none)
  | .or_ a b, δ, μ => bindR (ev a δ μ) fun x μ => (match x with
    | .bl true => retR (.bl true) μ
    | .bl false => ev b δ μ
    | _ => none)
  | .ite c a b, δ, μ => bindR (ev c δ μ) fun x μ => (match x with
    | .bl true => ev a δ μ
    | .bl false => ev b δ μ
    | _ => none)
  | .chain o o' a b c, δ, μ => bindR (ev a δ μ) fun x μ => bindR (ev b δ μ) fun y μ => bindR (optR (o.do μ x y) μ) fun z μ => (match z with
    | .bl true => bindR (ev c δ μ) fun w μ => optR (o'.do μ y w) μ
    | .bl false => retR (.bl false) μ
    | _ => none)
  | .idx a b, δ, μ => bindR (ev a δ μ) fun x μ => bindR (ev b δ μ) fun y μ => optR (ixD μ x y) μ
  | .lidx i b, δ, μ => (match δ[i]? with
    | some (.lin xs) => bindR (ev b δ μ) fun y μ => (match y with
      | .int j => optR (L2.atI xs j) μ
      | _ => none)
    | _ => none)
  | .slc a lo hi, δ, μ => bindR (ev a δ μ) fun x μ => bindR (evo lo δ μ) fun l μ => bindR (evo hi δ μ) fun h μ => optR (slD μ x l h) μ
  | .rev a, δ, μ => bindR (ev a δ μ) fun x μ => optR (revD μ x) μ
  | .tup es, δ, μ => bindR (evs es δ μ) fun xs μ => if xs.length ≤ sizeLine then retR (.tup xs) μ else none
  | .lst es, δ, μ => bindR (evs es δ μ) fun xs μ => if xs.length ≤ sizeLine then retR (.lst xs) μ else none
  | .mlst es, δ, μ => bindR (evs es δ μ) fun xs μ => if xs.length ≤ sizeLine then retR (.obj μ.length) (μ ++ [.lst xs]) else none
  | .call F es, δ, μ => bindR (evs es δ μ) fun xs μ => F xs μ
  | .bi f es, δ, μ => bindR (evs es δ μ) fun xs μ => optR (f.do μ xs) μ
  | .comp elt tg it cond own, δ, μ => bindR (evi it δ μ) fun xs μ => compL tg (ev cond) (ev elt) (wipeS δ own) xs [] μ
  | .lrng a, δ, μ => bindR (ev a δ μ) fun x μ => (match x with
    | .int j => if (decide (-(2 ^ 62) ≤ j) && decide (j ≤ 16777216)) = true then retR (.lst (rgD 0 j)) μ else none
    | _ => none)
  | .err nms e, δ, μ => (match ev e δ μ with
    | some (.ok _, μ) => retR (.str "") μ
    | some (.error (c, none), μ) => optR ((nms.lookup c).map .str) μ
    | _ => none)
  | .meth f o es, δ, μ => bindR (ev o δ μ) fun x μ => (match x with
    | .str z => bindR (evs es δ μ) fun xs μ => optR (f.do μ (.str z :: xs)) μ
    | _ => none)
  | .mrep x k, δ, μ => bindR (ev x δ μ) fun d μ => bindR (ev k δ μ) fun y μ => (match y with
    | .int j => if (decide (-(2 ^ 63) ≤ j) && decide (j < 2 ^ 63) && decide (j.toNat ≤ sizeLine)) = true then retR (.obj μ.length) (μ ++ [.lst (List.replicate j.toNat d)]) else none
    | _ => none)
  | .dct ks es, δ, μ => bindR (evs es δ μ) fun xs μ => if (decide (ks.length = xs.length) && decide (ks.length ≤ 15) && decide ks.Nodup && !ks.isEmpty) = true then retR (.obj μ.length) (μ ++ [.dct (ks.zip xs)]) else none
  | .nott a, δ, μ => bindR (ev a δ μ) fun x μ => optR ((truD x).map fun b => .bl (!b)) μ
  | .dyn i tb es, δ, μ => (match δ[i]? with
    | some (.d (.glo x)) => (match tb.lookup x with
      | some (a, F) => bindR (evs es δ μ) fun xs μ => if xs.length = a then F xs μ else none
      | none => none)
    | _ => none)
  | .dnew, _, μ => retR (.obj μ.length) (μ ++ [.dcn []])
  | .dget o k x, δ, μ => bindR (ev o δ μ) fun a μ => if isDcn μ a = true then bindR (ev k δ μ) fun b μ => bindR (ev x δ μ) fun c μ => optR (getN μ a b c) μ else none
  | .mcp e, δ, μ => bindR (ev e δ μ) fun x μ => (match itemsD μ x with
    | some xs => retR (.obj μ.length) (μ ++ [.lst xs])
    | none => none)
  | .dcp i e, δ, μ => bindR (ev e δ μ) fun x μ => (match dctOf μ x with
    | some kvs => if i < δ.length then retR (.obj μ.length) (μ ++ [.dct kvs]) else none
    | none => none)
  | .compn elt tg it cond cl own, δ, μ => bindR (evi it δ μ) fun xs μ => endL (clsL tg (ev cond) (evc (ev elt) cl) (wipeS δ own) xs [] μ)
def evc (elt : List Sl → List Mo → RM D) : Cl → List Sl → List D → List Mo → Option (List D × List Mo)
  | .nil, δ, acc, μ => oneL elt δ acc μ
  | .cons tg it cond vs cl, δ, acc, μ => (noE (evi it δ μ)).bind fun r => clsL tg (ev cond) (evc elt cl) (wipeS δ vs) r.1 acc r.2
def evs : Es → List Sl → List Mo → RM (List D)
  | .nil, _, μ => retR [] μ
  | .cons e es, δ, μ => bindR (ev e δ μ) fun x μ => bindR (evs es δ μ) fun xs μ => retR (x :: xs) μ
def evo : Eo → List Sl → List Mo → RM (Option Int)
  | .no, _, μ => retR none μ
  | .yes e, δ, μ => bindR (ev e δ μ) fun x μ => (match x with
    | .int i => retR (some i) μ
    | _ => none)
def evi : It → List Sl → List Mo → RM (List D)
  | .seq e, δ, μ => bindR (ev e δ μ) fun x μ => optR (seqD [] x) μ
  | .rng a, δ, μ => bindR (ev a δ μ) fun x μ => (match x with
    | .int j => if rgOk 0 j = true then retR (rgD 0 j) μ else none
    | _ => none)
  | .rng2 a b, δ, μ => bindR (ev a δ μ) fun x μ => bindR (ev b δ μ) fun y μ => (match x, y with
    | .int i, .int j => if rgOk i j = true then retR (rgD i j) μ else none
    | _, _ => none)
  | .enum e, δ, μ => bindR (ev e δ μ) fun x μ => optR (enumK x) μ
  | .zip a b, δ, μ => bindR (ev a δ μ) fun x μ => bindR (ev b δ μ) fun y μ => optR (zipK x y) μ
end
/-! ### statements -/
inductive Fl | nx | bk | ct | rt (d : D) | ex (e : Ex)
abbrev SM := Option (Fl × List Sl × List Mo)
mutual
inductive St
  | pass | expr (e : E) | set (t : Tg) (e : E) | ret (e : E) | retn | ite (c : E) (a b : Ss)
  | for_ (t : Tg) (it : It) (body : Ss) | while_ (fuel : Nat) (c : E) (body : Ss) | brk | cont
  | raise (c : Str)
  | put (o i e : E) | lin (i : Nat) (es : Es) | app (i : Nat) (e : E) | still (i : Nat) | bot
  | raisep (c : Str) (e : E)
  | linc (i : Nat) (e : E) | lput (i : Nat) (j e : E) | setl (i j : Nat) (e : E)
  | put2 (o i o2 i2 e e2 : E) | setl2 (i j k : Nat) (e : E)
inductive Ss | nil | cons (s : St) (ss : Ss)
end
@[reducible] def thenE {α : Type} (x : RM α) (δ : List Sl) (f : α → List Mo → SM) : SM := match x with
  | none => none
  | some (.error e, μ) => some (.ex e, δ, μ)
  | some (.ok a, μ) => f a μ
@[reducible] def thenS (x : SM) (f : List Sl → List Mo → SM) : SM := match x with
  | some (.nx, δ, μ) => f δ μ
  | x => x
def forL (tg : Tg) (body : List Sl → List Mo → SM) : List D → List Sl → List Mo → SM
  | [], δ, μ => some (.nx, δ, μ)
  | x :: xs, δ, μ => (tg.put x δ).bind fun δ1 => match body δ1 μ with
    | some (.nx, δ, μ) => forL tg body xs δ μ
    | some (.ct, δ, μ) => forL tg body xs δ μ
    | some (.bk, δ, μ) => some (.nx, δ, μ)
    | r => r
def whileL (test : List Sl → List Mo → RM D) (body : List Sl → List Mo → SM) : Nat → List Sl → List Mo → SM
  | 0, _, _ => none
  | n + 1, δ, μ => thenE (test δ μ) δ fun c μ => match c with
    | .bl true => (match body δ μ with
      | some (.nx, δ, μ) => whileL test body n δ μ
      | some (.ct, δ, μ) => whileL test body n δ μ
      | some (.bk, δ, μ) => some (.nx, δ, μ)
      | r => r)
    | .bl false => some (.nx, δ, μ)
    | _ => none
/-- the value at a key that is there is another -/
def putS (kvs : List (Str × D)) (z : Str) (v : D) : List (Str × D) := kvs.map fun p => if p.1 = z then (p.1, v) else p
/-- o[i] = v -/
def putD (μ : List Mo) (o i v : D) : Option (List Mo) := match o with
  | .obj n => (match μ[n]?, i with
    | some (.lst xs), .int k => (L2.ixN xs.length k).map fun j => μ.set n (.lst (xs.set j v))
    | some (.dct kvs), .str z => if (decide (kvs.length ≤ 1000) && (kvs.lookup z).isSome) = true then some (μ.set n (.dct (putS kvs z v))) else none
    | some (.dcn kvs), .tup ds => (nkT (.tup ds)).bind fun k => if kvs.length < 1000000 then some (μ.set n (.dcn (putN kvs k v))) else none
    | _, _ => none)
  | _ => none
mutual
def ex : St → List Sl → List Mo → SM
  | .pass, δ, μ => some (.nx, δ, μ)
  | .expr e, δ, μ => thenE (ev e δ μ) δ fun _ μ => some (.nx, δ, μ)
  | .set t e, δ, μ => thenE (ev e δ μ) δ fun x μ => (t.put x δ).bind fun δ => some (.nx, δ, μ)
  | .ret e, δ, μ => thenE (ev e δ μ) δ fun x μ => some (.rt x, δ, μ)
  | .retn, δ, μ => some (.rt .non, δ, μ)
  | .ite c a b, δ, μ => thenE (ev c δ μ) δ fun x μ => (match x with
    | .bl true => exs a δ μ
    | .bl false => exs b δ μ
    | _ => none)
  | .for_ t it body, δ, μ => thenE (evi it δ μ) δ fun xs μ => forL t (exs body) xs δ μ
  | .while_ n c body, δ, μ => whileL (ev c) (exs body) n δ μ
  | .brk, δ, μ => some (.bk, δ, μ)
  | .cont, δ, μ => some (.ct, δ, μ)
  | .raise c, δ, μ => some (.ex (c, none), δ, μ)
  | .raisep c e, δ, μ => thenE (ev e δ μ) δ fun x μ => (match x with
    | .int i => some (.ex (c, some (.int i)), δ, μ)
    | _ => none)
  | .put o i e, δ, μ => thenE (ev e δ μ) δ fun v μ => thenE (ev o δ μ) δ fun x μ => thenE (ev i δ μ) δ fun k μ => (putD μ x k v).bind fun μ => some (.nx, δ, μ)
  | .lin i es, δ, μ => thenE (evs es δ μ) δ fun xs μ => if xs.length ≤ sizeLine then some (.nx, δ.set i (.lin xs), μ) else none
  | .app i e, δ, μ => (match δ[i]? with
    | some (.lin xs) => thenE (ev e δ μ) δ fun x μ => if xs.length < sizeLine then some (.nx, δ.set i (.lin (xs ++ [x])), μ) else none
    | _ => none)
  | .still i, δ, μ => (match δ[i]? with
    | some (.lin xs) => some (.nx, δ.set i (.d (.lst xs)), μ)
    | _ => none)
  | .bot, _, _ => none
  | .linc i e, δ, μ => thenE (ev e δ μ) δ fun x μ => (match x with
    | .lst xs => some (.nx, δ.set i (.lin xs), μ)
    | _ => none)
  | .lput i j e, δ, μ => thenE (ev e δ μ) δ fun v μ => (match δ[i]? with
    | some (.lin xs) => thenE (ev j δ μ) δ fun k μ => (match k with
      | .int k => (L2.ixN xs.length k).bind fun n => some (.nx, δ.set i (.lin (xs.set n v)), μ)
      | _ => none)
    | _ => none)
  | .setl i j e, δ, μ => thenE (ev e δ μ) δ fun x μ => some (.nx, (δ.set i (.d x)).set j (.lin []), μ)
  | .put2 o i o2 i2 e e2, δ, μ => thenE (ev e δ μ) δ fun v μ => thenE (ev e2 δ μ) δ fun v2 μ => thenE (ev o δ μ) δ fun x μ => thenE (ev i δ μ) δ fun k μ => (putD μ x k v).bind fun μ =>
    thenE (ev o2 δ μ) δ fun x2 μ => thenE (ev i2 δ μ) δ fun k2 μ => (putD μ x2 k2 v2).bind fun μ => some (.nx, δ, μ)
  | .setl2 i j k e, δ, μ => thenE (ev e δ μ) δ fun x μ => some (.nx, ((δ.set i (.d x)).set j (.lin [])).set k (.lin []), μ)
def exs : Ss → List Sl → List Mo → SM
  | .nil, δ, μ => some (.nx, δ, μ)
  | .cons s ss, δ, μ => thenS (ex s δ μ) fun δ μ => exs ss δ μ
end
/-- a def: so many parameters, so many slots, its body -/
def run (np ns : Nat) (b : Ss) : Sem := fun xs μ => if xs.length = np then (match exs b (xs.map .d ++ List.replicate (ns - np) .un) μ with
  | some (.nx, _, μ) => retR .non μ
  | some (.rt d, _, μ) => retR d μ
  | some (.ex e, _, μ) => some (.error e, μ)
  | _ => none) else none
end Mi
set_option Elab.async false
set_option linter.all false
set_option maxRecDepth 100000
set_option maxHeartbeats 4000000
/-! Mv: the operators' rules over data. -/
namespace Mi
open PySem PySem.Spec PyProof.Rows L2
section
variable {K : PySem.W.Frag} {mg : Str → Option Value} {T : TW} {ι Z Zf ι' Z' : List Addr} {H H' : Hp} {μ : List Mo}
theorem ext_fresh {p : Addr} {o : HO} (hp : H p = none) : Ext ι Zf H ι (upd H p o) := by
  refine ⟨⟨[], by simp, by simp⟩, fun a u q _ _ _ => ?_, fun a u q => ⟨u, ?_⟩, fun a xs q => ?_⟩
  · rw [upd_ne (ne_of_none q hp)]; exact q
  · rw [upd_ne (ne_of_none q hp)]; exact q
  · rw [upd_ne (ne_of_none q hp)]; exact q
theorem RG.fresh (g : RG K mg T ι Z H μ) {p : Addr} {o : HO} (hp : H p = none) : RG K mg T ι Z (upd H p o) μ := by
  refine ⟨g.nd, g.len, fun n m h => ?_, fun z hz => ?_, g.tabs.ext fun b u q => ?_⟩
  · obtain ⟨a, h1, h2⟩ := g.mem n m h
    obtain ⟨u, q, _⟩ := h2.at
    exact ⟨a, h1, h2.ext (Zf := []) (ext_fresh hp) (by simp) (fun _ z => .inl z) (upd_ne (ne_of_none q hp))⟩
  · obtain ⟨⟨vs, q⟩, n⟩ := g.zl z hz
    exact ⟨⟨vs, by rw [upd_ne (ne_of_none q hp)]; exact q⟩, n⟩
  · rw [upd_ne (ne_of_none q hp)]; exact q
/-- a new tuple, a new list -/
theorem Rp.newT {p : Addr} {ds : List D} {vs : List V} (hp : H p = none) (h : Rps K mg ι Z H ds vs) : Rp K mg ι Z (upd H p (.tup vs)) (.tup ds) (.ref p) :=
  ⟨p, vs, rfl, .inl upd_same, h.ext0 (ext_fresh hp)⟩
theorem RG.notin (g : RG K mg T ι Z H μ) {p : Addr} (hp : H p = none) : p ∉ ι ∧ p ∉ Z := by
  refine ⟨fun z => ?_, fun z => ?_⟩
  · obtain ⟨n, e⟩ := List.getElem?_of_mem z
    have hn : n < μ.length := by rw [← g.len]; exact (List.getElem?_eq_some_iff.mp e).1
    obtain ⟨a, h1, h2⟩ := g.mem n μ[n] (List.getElem?_eq_getElem hn)
    rw [e] at h1; cases h1
    obtain ⟨u, q, _⟩ := h2.at
    rw [hp] at q; cases q
  · obtain ⟨⟨vs, q⟩, _⟩ := g.zl p z
    rw [hp] at q; cases q
theorem Rp.newL (g : RG K mg T ι Z H μ) {p : Addr} {ds : List D} {vs : List V} (hp : H p = none) (h : Rps K mg ι Z H ds vs) : Rp K mg ι Z (upd H p (.lst vs)) (.lst ds) (.ref p) :=
  ⟨p, vs, rfl, ⟨upd_same, g.notin hp⟩, h.ext0 (ext_fresh hp)⟩
theorem see_cases (μ : List Mo) (d : D) : see μ d = d ∨ ∃ n xs, d = .obj n ∧ μ[n]? = some (.lst xs) ∧ see μ d = .lst xs := by
  cases d with
  | obj n =>
    cases h : μ[n]? with
    | none => exact .inl (by simp only [see, h])
    | some m =>
      cases m with
      | lst xs => exact .inr ⟨n, xs, rfl, h, by simp only [see, h]⟩
      | dct _ => exact .inl (by simp only [see, h])
      | ins _ _ => exact .inl (by simp only [see, h])
      | dcn _ => exact .inl (by simp only [see, h])
  | _ => exact .inl rfl
theorem see_lst (g : RG K mg T ι Z H μ) {d : D} {xs : List D} {v : V} (e : see μ d = .lst xs) (h : Rp K mg ι Z H d v) : ∃ a vs, v = .ref a ∧ H a = some (.lst vs) ∧ Rps K mg ι Z H xs vs := by
  rcases see_cases μ d with q | ⟨n, ys, rfl, h1, q⟩
  · rw [q] at e; subst e
    obtain ⟨a, vs, h1, ⟨h2, _⟩, h3⟩ := h
    exact ⟨a, vs, h1, h2, h3⟩
  · rw [q] at e; cases e
    obtain ⟨a, h2, vs, h3, h4⟩ := g.mem n _ h1
    obtain ⟨b, rfl, h5⟩ := h
    rw [h5] at h2; cases h2
    exact ⟨_, vs, rfl, h3, h4⟩
theorem see_of {d e : D} (h : see μ d = e) (n : ∀ xs, e ≠ .lst xs) : d = e := by
  rcases see_cases μ d with q | ⟨_, xs, _, _, q⟩
  · rw [← q]; exact h
  · rw [q] at h; exact absurd h.symm (n xs)
theorem see_seq (g : RG K mg T ι Z H μ) {d : D} {xs : List D} {v : V} (e : see μ d = .tup xs) (h : Rp K mg ι Z H d v) : ∃ a vs, v = .ref a ∧ TupAt K H a vs ∧ Rps K mg ι Z H xs vs := by
  have := see_of e (fun _ z => by cases z)
  subst this
  exact h
mutual
theorem dp_of : ∀ (d : D) (v : V) (p : PyData), Rp K mg ι Z H d v → py0 d = some p → Dp K H v p
  | .non, _, _, h, e => by rw [show _ = V.non from h]; simp only [py0, Option.some.injEq] at e; subst e; exact .non
  | .bl b, _, _, h, e => by rw [show _ = V.bl b from h]; simp only [py0, Option.some.injEq] at e; subst e; exact .bl b
  | .int i, _, _, h, e => by rw [show _ = V.int i from h]; simp only [py0, Option.some.injEq] at e; subst e; exact .int i
  | .str x, _, _, h, e => by rw [show _ = V.str x from h]; simp only [py0, Option.some.injEq] at e; subst e; exact .str x
  | .tup ds, v, p, h, e => by
    obtain ⟨a, vs, rfl, h1, h2⟩ := h
    simp only [py0, Option.map_eq_some_iff] at e
    obtain ⟨ps, e1, rfl⟩ := e
    exact .tup h1.sq (dps_of ds vs ps h2 e1)
  | .lst ds, v, p, h, e => by
    obtain ⟨a, vs, rfl, ⟨h1, _⟩, h2⟩ := h
    simp only [py0, Option.map_eq_some_iff] at e
    obtain ⟨ps, e1, rfl⟩ := e
    exact .lst (SqL.of h1) (dps_of ds vs ps h2 e1)
  | .ty _, _, _, _, e => by simp [py0] at e
  | .glo _, _, _, _, e => by simp [py0] at e
  | .obj _, _, _, _, e => by simp [py0] at e
  | .scr _, _, _, _, e => by simp [py0] at e
theorem dps_of : ∀ (ds : List D) (vs : List V) (ps : List PyData), Rps K mg ι Z H ds vs → py0s ds = some ps → DpAll K H vs ps
  | [], _, _, h, e => by rw [show _ = [] from h]; simp only [py0s, Option.some.injEq] at e; subst e; exact .nil
  | d :: ds, _, _, h, e => by
    obtain ⟨v, vs', rfl, h1, h2⟩ := h
    simp only [py0s, Option.bind_eq_some_iff, Option.map_eq_some_iff] at e
    obtain ⟨p, e1, ps, e2, rfl⟩ := e
    exact .cons (dp_of d v p h1 e1) (dps_of ds vs' ps h2 e2)
end
theorem dp_see (g : RG K mg T ι Z H μ) {d : D} {v : V} {p : PyData} (h : Rp K mg ι Z H d v) (e : py0 (see μ d) = some p) : Dp K H v p := by
  rcases see_cases μ d with q | ⟨n, xs, rfl, h1, q⟩
  · rw [q] at e; exact dp_of d v p h e
  · rw [q] at e
    obtain ⟨a, vs, rfl, h2, h3⟩ := see_lst g q h
    simp only [py0, Option.map_eq_some_iff] at e
    obtain ⟨ps, e1, rfl⟩ := e
    exact .lst (SqL.of h2) (dps_of xs vs ps h3 e1)
theorem intsOf_eq : ∀ {ds : List D} {ns : List Int}, intsOf ds = some ns → ds = ns.map D.int
  | [], _, e => by simp only [intsOf, Option.some.injEq] at e; subst e; rfl
  | d :: ds, ns, e => by
    cases d <;> simp only [intsOf] at e
    case int i =>
      simp only [Option.map_eq_some_iff] at e
      obtain ⟨ms, e1, rfl⟩ := e
      rw [intsOf_eq e1]; rfl
    all_goals cases e
end
/-- what an operator's rule asks: data on both sides, the outcome by the small language -/
def r2 (K : PySem.W.Frag) (mg : Str → Option Value) (T : TW) (o : Op) : R2 := fun x y H Q => ∃ ι Z μ d e r, RG K mg T ι Z H μ ∧ Rp K mg ι Z H d x ∧ Rp K mg ι Z H e y ∧ o.do μ d e = some r ∧
  ∀ ι' v H', Ext ι [] H ι' H' → RG K mg T ι' Z H' μ → Rp K mg ι' Z H' r v → Q v H'
section
variable {X : Cx} {T : TW}
theorem ok_add : OpR X (binaryOp .Add) (r2 X.K X.mg T .add) := by
  intro pins s σ H x y v u Q I rx ry h
  obtain ⟨ι, Z, μ, d, e, r, g, hd, he, ho, q⟩ := h
  simp only [Op.do, addD] at ho
  split at ho
  · rename_i i j e1 e2
    have e1 := see_of e1 (fun _ z => by cases z)
    have e2 := see_of e2 (fun _ z => by cases z)
    subst e1 e2
    cases ho
    exact op_add pins s σ H x y v u Q I rx ry ⟨i, j, hd, he, q ι _ H Ext.refl g rfl⟩
  · rename_i i j e1 e2
    have e1 := see_of e1 (fun _ z => by cases z)
    have e2 := see_of e2 (fun _ z => by cases z)
    subst e1 e2
    cases ho
    have hd' : x = V.bl i := hd
    have he' : y = V.int j := he
    subst hd' he'
    cases rx
    obtain ⟨t', rfl⟩ := ry
    exact PySem.IntBool.add_bool_int ⟨.int _, H, I.tok _, ⟨_, rfl⟩, q ι _ H Ext.refl g rfl⟩
  · rename_i i j e1 e2
    have e1 := see_of e1 (fun _ z => by cases z)
    have e2 := see_of e2 (fun _ z => by cases z)
    subst e1 e2
    split at ho <;> cases ho
    rename_i hz
    exact op_add_str pins s σ H x y v u Q I rx ry ⟨i, j, hd, he, hz, q ι _ H Ext.refl g rfl⟩
  · rename_i xs ys e1 e2
    obtain ⟨a, vs, rfl, h1, h2⟩ := see_seq g e1 hd
    obtain ⟨b, ws, rfl, h3, h4⟩ := see_seq g e2 he
    split at ho <;> cases ho
    rename_i hz
    have l1 := h2.length
    have l2 := h4.length
    refine op_catA pins s σ H _ _ v u Q I rx ry ⟨a, b, vs, ws, rfl, rfl, h1.sq, h3.sq, by omega, fun z => ?_, fun z1 z2 => ?_, fun z1 z2 p hp => ?_⟩
    · have := h2.nil_iff.mp z; subst this; subst z
      exact q ι _ H Ext.refl g ⟨b, ws, rfl, h3, by simpa using h4⟩
    · have := h4.nil_iff.mp z2; subst this; subst z2
      exact q ι _ H Ext.refl g ⟨a, vs, rfl, h1, by simpa using h2⟩
    · exact q ι _ _ (ext_fresh hp) (g.fresh hp) (Rp.newT hp (h2.append h4))
  · rename_i xs ys e1 e2
    obtain ⟨a, vs, rfl, h1, h2⟩ := see_lst g e1 hd
    obtain ⟨b, ws, rfl, h3, h4⟩ := see_lst g e2 he
    split at ho <;> cases ho
    rename_i hz
    have l1 := h2.length
    have l2 := h4.length
    exact op_cat pins s σ H _ _ v u Q I rx ry ⟨a, b, vs, ws, rfl, rfl, h1, h3, by omega, fun p hp => q ι _ _ (ext_fresh hp) (g.fresh hp) (Rp.newL g hp (h2.append h4))⟩
  · cases ho
theorem ok_sub : OpR X (binaryOp .Sub) (r2 X.K X.mg T .sub) := by
  intro pins s σ H x y v u Q I rx ry h
  obtain ⟨ι, Z, μ, d, e, r, g, hd, he, ho, q⟩ := h
  simp only [Op.do] at ho
  split at ho <;> cases ho
  · exact op_sub pins s σ H x y v u Q I rx ry ⟨_, _, hd, he, q ι _ H Ext.refl g rfl⟩
  · have hd' : x = V.bl _ := hd
    have he' : y = V.int _ := he
    subst hd' he'
    cases rx
    obtain ⟨t', rfl⟩ := ry
    exact PySem.IntBool.sub_bool_int ⟨.int _, H, I.tok _, ⟨_, rfl⟩, q ι _ H Ext.refl g rfl⟩
theorem ok_fdiv : OpR X (binaryOp .FloorDiv) (r2 X.K X.mg T .fdiv) := by
  intro pins s σ H x y v u Q I rx ry h
  obtain ⟨ι, Z, μ, d, e, r, g, hd, he, ho, q⟩ := h
  simp only [Op.do] at ho
  split at ho
  · split at ho
    · cases ho
      rename_i hc
      simp only [Bool.and_eq_true, decide_eq_true_eq] at hc
      exact op_fdivW pins s σ H x y v u Q I rx ry ⟨_, _, hd, he, ⟨hc.1, hc.2⟩, q ι _ H Ext.refl g rfl⟩
    · split at ho <;> cases ho
      rename_i hc
      unfold fdOk at hc
      simp only [Bool.and_eq_true, decide_eq_true_eq, Bool.not_eq_true'] at hc
      exact (opI (X := X) (f := binaryOp .FloorDiv) (C := fun i j => j ≠ 0 ∧ Builtin.divisionGoesByPylong i j = false) (g := fun i j => i.fdiv j) fun _ _ _ _ _ _ _ hc q => floordiv_int hc.1 q (.inl hc.2)) pins s σ H x y v u Q I rx ry ⟨_, _, hd, he, hc, q ι _ H Ext.refl g rfl⟩
  · cases ho
theorem ok_mod : OpR X (binaryOp .Mod) (r2 X.K X.mg T .mod) := by
  intro pins s σ H x y v u Q I rx ry h
  obtain ⟨ι, Z, μ, d, e, r, g, hd, he, ho, q⟩ := h
  simp only [Op.do] at ho
  split at ho
  · split at ho <;> cases ho
    rename_i hc
    exact op_mod pins s σ H x y v u Q I rx ry ⟨_, _, hd, he, hc, q ι _ H Ext.refl g rfl⟩
  · cases ho
theorem ok_pow : OpR X (binaryOp .Pow) (r2 X.K X.mg T .pow) := by
  intro pins s σ H x y v u Q I rx ry h
  obtain ⟨ι, Z, μ, d, e, r, g, hd, he, ho, q⟩ := h
  simp only [Op.do] at ho
  split at ho
  · split at ho <;> cases ho
    rename_i hc
    simp only [Bool.and_eq_true, decide_eq_true_eq] at hc
    exact op_pow pins s σ H x y v u Q I rx ry ⟨_, _, hd, he, ⟨hc.1.1, hc.1.2, hc.2⟩, q ι _ H Ext.refl g rfl⟩
  · cases ho
theorem ok_eq (hu : X.A.units + 64 < cLine) : OpR X (compareOp .Eq) (r2 X.K X.mg T .eq) := by
  intro pins s σ H x y v u Q I rx ry h
  obtain ⟨ι, Z, μ, d, e, r, g, hd, he, ho, q⟩ := h
  simp only [Op.do, Option.map_eq_some_iff, eqD, Option.bind_eq_some_iff] at ho
  obtain ⟨b, ⟨p1, e1, p2, e2, ho⟩, rfl⟩ := ho
  split at ho <;> cases ho
  rename_i hs
  rw [Bool.and_eq_true] at hs
  exact op_eqD hu pins s σ H x y v u Q I rx ry ⟨p1, p2, dp_see g hd e1, dp_see g he e2, hs.1, hs.2, q ι _ H Ext.refl g rfl⟩
theorem ok_ne (hu : X.A.units + 64 < cLine) : OpR X (compareOp .NotEq) (r2 X.K X.mg T .ne) := by
  intro pins s σ H x y v u Q I rx ry h
  obtain ⟨ι, Z, μ, d, e, r, g, hd, he, ho, q⟩ := h
  simp only [Op.do, Option.map_eq_some_iff, eqD, Option.bind_eq_some_iff] at ho
  obtain ⟨b, ⟨p1, e1, p2, e2, ho⟩, rfl⟩ := ho
  split at ho <;> cases ho
  rename_i hs
  rw [Bool.and_eq_true] at hs
  exact op_neD hu pins s σ H x y v u Q I rx ry ⟨p1, p2, dp_see g hd e1, dp_see g he e2, hs.1, hs.2, q ι _ H Ext.refl g rfl⟩
end
end Mi
set_option Elab.async false
set_option linter.all false
set_option maxRecDepth 100000
set_option maxHeartbeats 4000000
/-! Mq: dicts whose keys are tuples of any depth. -/
namespace Mi
open PySem PySem.Spec PyProof.Rows L2
section
variable {X : Cx} {pins : List (Addr × Obj)} {σ : L2.St} {H : Hp} {s : Shared}
theorem tup_at (I : Inv X pins σ H s) {a : Addr} {vs : List V} (h : TupAt X.K H a vs) : ∃ o its n, s.heap.get? a = some o ∧ o.cls = .type "tuple" ∧ o.data = .seq its n ∧ Vals vs its.toList := by
  obtain ⟨its, r, p, hz⟩ := I.tuple h.sq
  obtain ⟨o, ho, hc, n, hd⟩ := p
  exact ⟨o, its.toArray, n, ho, hc, hd, by simpa using r⟩
mutual
theorem key_is (I : Inv X pins σ H s) : ∀ (k : NestedKey) (v : V) (u : Value), KeyAt X.K H k v → RelV v u → NestedIs s.heap k u
  | .none, v, u, h, r => by
    have h : v = .non := h
    subst h
    obtain rfl : u = Value.none := r
    exact .none
  | .num i, v, u, h, r => by
    rcases (show v = .int i ∨ ∃ b, v = .bl b ∧ i = if b = true then 1 else 0 from h) with rfl | ⟨b, rfl, hb⟩
    · obtain ⟨t, rfl⟩ := r
      exact .int i t
    · obtain rfl : u = Value.bool b := r
      exact .bool hb
  | .text x, v, u, h, r => by
    have h : v = .str x := h
    subst h
    obtain ⟨t, rfl⟩ := r
    exact .text x t
  | .tup ks, v, u, h, r => by
    obtain ⟨a, vs, rfl, h1, h2⟩ := h
    obtain rfl : u = Value.ref a := r
    obtain ⟨o, its, n, ho, hc, hd, rv⟩ := tup_at I h1
    exact .tup ho hc hd (keys_are I ks vs its.toList h2 rv)
theorem keys_are (I : Inv X pins σ H s) : ∀ (ks : List NestedKey) (vs : List V) (us : List Value), KeysAt X.K H ks vs → Vals vs us → NestedAll s.heap ks us
  | [], vs, us, h, r => by
    have h : vs = [] := h
    subst h
    cases r
    exact .nil
  | k :: ks, vs, us, h, r => by
    obtain ⟨v, vs', rfl, h1, h2⟩ := h
    cases r with
    | cons r1 r2 => exact .cons (key_is I k v _ h1 r1) (keys_are I ks vs' _ h2 r2)
end
/-- the entries as the library has them -/
def NdX (xs : List (NestedKey × Addr × V)) (ys : List (NestedKey × Addr × Value)) : Prop := Paired (fun x y => y.1 = x.1 ∧ y.2.1 = x.2.1 ∧ RelV x.2.2 y.2.2) xs ys
theorem ndX_of {w : World} : ∀ {xs : List (NestedKey × Addr × V)} {es : List DictEntry}, Paired (NdE w) xs es → ∃ ys, NdX xs ys ∧ es = ys.map fun y => ⟨y.1.hash w, .ref y.2.1, y.2.2⟩
  | [], es, h => by cases h; exact ⟨[], .nil, rfl⟩
  | x :: xs, es, h => by
    cases h with
    | @cons _ e _ es h1 h2 =>
      obtain ⟨ys, r, e2⟩ := ndX_of h2
      obtain ⟨eh, ek, ev⟩ := e
      obtain ⟨q1, q2, q3⟩ := h1
      have q1 : eh = x.1.hash w := q1
      have q2 : ek = Value.ref x.2.1 := q2
      subst q1 q2
      exact ⟨(x.1, x.2.1, ev) :: ys, .cons ⟨rfl, rfl, q3⟩ r, by rw [e2]; rfl⟩
theorem ndE_of {w : World} : ∀ {xs : List (NestedKey × Addr × V)} {ys : List (NestedKey × Addr × Value)}, NdX xs ys → Paired (NdE w) xs (ys.map fun y => (⟨y.1.hash w, .ref y.2.1, y.2.2⟩ : DictEntry))
  | _, _, .nil => .nil
  | _, _, .cons ⟨h1, h2, h3⟩ t => .cons ⟨by show NestedKey.hash w _ = NestedKey.hash w _; rw [h1], by show Value.ref _ = Value.ref _; rw [h2], h3⟩ (ndE_of t)
abbrev NK (X : Cx) : HeapKind X.prog X.w NestedKey := nestedKind X.prog X.w
theorem ndk_keys {K : PySem.W.Frag} : ∀ {kvs : List (NestedKey × D)} {xs : List (NestedKey × Addr × V)}, Paired (NdK K H) kvs xs → xs.map (·.1) = kvs.map (·.1)
  | _, _, .nil => rfl
  | _, _, .cons h t => by rw [List.map_cons, List.map_cons, ndk_keys t, h.1]
theorem ndX_keys : ∀ {xs : List (NestedKey × Addr × V)} {ys : List (NestedKey × Addr × Value)}, NdX xs ys → ys.map (·.1) = xs.map (·.1)
  | _, _, .nil => rfl
  | _, _, .cons h t => by rw [List.map_cons, List.map_cons, ndX_keys t, h.1]
/-- the dict in the heap -/
theorem nd_dict (I : Inv X pins σ H s) {a : Addr} {kvs : List (NestedKey × D)} {xs : List (NestedKey × Addr × V)} (h : H a = some (NDo X.w a xs)) (hn : (kvs.map (·.1)).Nodup) (hk : Paired (NdK X.K H) kvs xs) : ∃ ys, NdX xs ys ∧ s.heap.DictOfH (NK X) a ys := by
  obtain ⟨⟨o, es, ep, ho, hc, hd, he⟩, _, _⟩ := (show ObjOk X.prog X.w H s.heap a (NDo X.w a xs) from I.hok a _ h)
  obtain ⟨ys, r, e⟩ := ndX_of he
  refine ⟨ys, r, o, es, ep, ho, hc, hd, e, ?_, by rw [ndX_keys r, ndk_keys hk]; exact hn⟩
  have all : ∀ {kvs : List (NestedKey × D)} {xs : List (NestedKey × Addr × V)} {ys : List (NestedKey × Addr × Value)}, Paired (NdK X.K H) kvs xs → NdX xs ys → ∀ y ∈ ys, (NK X).is s.heap y.1 y.2.1 := by
    intro kvs xs ys q r
    induction q generalizing ys with
    | nil => cases r; intro y hy; cases hy
    | cons h t ih =>
      cases r with
      | cons r1 r2 =>
        intro y hy
        rcases List.mem_cons.mp hy with e | hy
        · subst e
          rw [r1.1, r1.2.1, h.1]
          exact ⟨key_is I _ _ _ h.2.2 rfl, h.2.1⟩
        · exact ih r2 y hy
  exact all hk r
theorem nd_new (I : Inv X pins σ H s) : ObjOk X.prog X.w (upd H s.heap.objs.size (NDo X.w s.heap.objs.size [])) (s.heap.push { cls := .type "dict", data := .dict #[] }) s.heap.objs.size (NDo X.w s.heap.objs.size []) :=
  ⟨⟨_, #[], 0, Heap.get?_push_size _ rfl, ⟨rfl, rfl, rfl⟩, rfl, .nil⟩, ⟨_, Heap.get?_push_size _ rfl⟩, fun h1 h2 ⟨o, es, ep, ho, r⟩ k => ⟨o, es, ep, k o ho, r⟩⟩
theorem nd_ok {h' : Heap} {a : Addr} {H' : Hp} {xs : List (NestedKey × Addr × V)} {ys : List (NestedKey × Addr × Value)} (r : NdX xs ys) (d : h'.DictOfH (NK X) a ys) : ObjOk X.prog X.w H' h' a (NDo X.w a xs) := by
  obtain ⟨o, es, ep, ho, hc, hd, he, _, _⟩ := d
  refine ⟨⟨o, es, ep, ho, hc, hd, ?_⟩, ⟨o, ho⟩, fun h1 h2 ⟨o, es, ep, ho, r⟩ k => ⟨o, es, ep, k o ho, r⟩⟩
  rw [he]
  exact ndE_of r
/-! ### tables -/
theorem look_at {K : PySem.W.Frag} {mg : Str → Option Value} {ι Z : List Addr} {k : NestedKey} : ∀ {kvs : List (NestedKey × D)} {xs : List (NestedKey × Addr × V)} {ys : List (NestedKey × Addr × Value)}, Paired (NdK K H) kvs xs → NdX xs ys → Rps K mg ι Z H (kvs.map (·.2)) (xs.map (·.2.2)) →
    (∀ d, lookN kvs k = some d → ∃ v b u, atKey ys k = some (b, u) ∧ RelV v u ∧ Rp K mg ι Z H d v) ∧ (lookN kvs k = none → atKey ys k = none) := by
  intro kvs xs ys q r rr
  induction q generalizing ys with
  | nil => cases r; exact ⟨fun d h => (by cases h), fun _ => rfl⟩
  | @cons p x ps xs h t ih =>
    cases r with
    | @cons _ y _ ys r1 r2 =>
      obtain ⟨v, vs, e, g1, g2⟩ := rr
      cases e
      obtain ⟨i1, i2⟩ := ih r2 g2
      have hk : y.1 = p.1 := r1.1.trans h.1
      by_cases e : p.1 = k
      · have e1 : lookN (p :: ps) k = some p.2 := by simp [lookN, e]
        have e2 : atKey (y :: ys) k = some y.2 := by simp [atKey, hk, e]
        rw [e1, e2]
        exact ⟨fun d hd => by cases hd; exact ⟨x.2.2, y.2.1, y.2.2, rfl, r1.2.2, g1⟩, fun z => by cases z⟩
      · have e1 : lookN (p :: ps) k = lookN ps k := by simp [lookN, e]
        have e2 : atKey (y :: ys) k = atKey ys k := by
          have : ¬ y.1 = k := by rw [hk]; exact e
          simp [atKey, this]
        rw [e1, e2]
        exact ⟨i1, i2⟩
theorem nkT_of {d : D} {k : NestedKey} (h : nkT d = some k) : ∃ ds, d = .tup ds ∧ nkD d = some k ∧ k.depth ≤ 8 := by
  unfold nkT at h
  split at h
  · simp only [Option.bind_eq_some_iff] at h
    obtain ⟨k', h1, h2⟩ := h
    split at h2 <;> cases h2
    exact ⟨_, rfl, h1, by assumption⟩
  · cases h
/-- the key's own address -/
theorem key_ref {K : PySem.W.Frag} {mg : Str → Option Value} {ι Z : List Addr} {d : D} {k : NestedKey} {v : V} (h : nkT d = some k) (r : Rp K mg ι Z H d v) : ∃ b, v = .ref b ∧ KeyAt K H k (.ref b) ∧ k.depth ≤ 8 := by
  obtain ⟨ds, rfl, h1, h2⟩ := nkT_of h
  have ka := KeyAt.of h1 r
  obtain ⟨b, vs, rfl, _⟩ := r
  exact ⟨b, rfl, ka, h2⟩
theorem nk_room {A : Around} (hu : A.units + 9 < cLine) : A.in1.units + 8 < cLine := by
  show A.units + 1 + 8 < cLine
  omega
end
section
variable {X : Cx} {T : TW} {pins : List (Addr × Obj)} {σ : L2.St} {H : Hp} {s : Shared} {ι Z : List Addr} {μ : List Mo} {n : Nat} {kvs : List (NestedKey × D)} {a : Addr} {A : Around} {E : Value → Shared → Prop}
/-- a dict among the changeable things -/
theorem nd_mem (hw : T.w = X.w) (g : RG X.K X.mg T ι Z H μ) (hm : μ[n]? = some (.dcn kvs)) (ha : ι[n]? = some a) : ∃ xs, H a = some (NDo X.w a xs) ∧ (a == sysModules) = false ∧ (kvs.map (·.1)).Nodup ∧ Paired (NdK X.K H) kvs xs ∧ Rps X.K X.mg ι Z H (kvs.map (·.2)) (xs.map (·.2.2)) := by
  obtain ⟨b, hb, h⟩ := g.mem n _ hm
  rw [ha] at hb
  cases hb
  obtain ⟨xs, h1, h2⟩ := h
  rw [hw] at h1
  exact ⟨xs, h1, h2⟩
theorem nd_in (hw : T.w = X.w) (hu : A.units + 9 < cLine) (I : Inv X pins σ H s) (g : RG X.K X.mg T ι Z H μ) (hm : μ[n]? = some (.dcn kvs)) (ha : ι[n]? = some a) {d : D} {k : NestedKey} {v : V} {u : Value} (hk : nkT d = some k) (r : Rp X.K X.mg ι Z H d v) (rv : RelV v u) {Q : Value → Shared → Prop} :
    ((∀ s', Inv X pins σ H s' → Q (.bool (lookN kvs k).isSome) s') → wpAny (model X.prog X.w) A (compareOp .In u (.ref a)) Q E s) ∧
    ((∀ s', Inv X pins σ H s' → Q (.bool (!(lookN kvs k).isSome)) s') → wpAny (model X.prog X.w) A (compareOp .NotIn u (.ref a)) Q E s) := by
  obtain ⟨xs, h1, h2, h3, h4, h5⟩ := nd_mem hw g hm ha
  obtain ⟨ys, r1, dd⟩ := nd_dict I h1 h3 h4
  obtain ⟨b, rfl, ka, kd⟩ := key_ref hk r
  obtain rfl : u = Value.ref b := rv
  have his : (NK X).is s.heap k b := ⟨key_is I k _ _ ka rfl, kd⟩
  obtain ⟨l1, l2⟩ := look_at (k := k) h4 r1 h5
  have e : (atKey ys k).isSome = (lookN kvs k).isSome := by
    cases q : lookN kvs k with
    | none => rw [l2 q]; rfl
    | some d => obtain ⟨v, b, u, e, _⟩ := l1 d q; rw [e]; rfl
  refine ⟨fun q => wpAny_in_heap (knd := NK X) (nk_room hu) his h2 dd ?_, fun q => wpAny_notIn_heap (knd := NK X) (nk_room hu) his h2 dd ?_⟩
  · rw [e]; exact q _ (I.tok _)
  · rw [e]; exact q _ (I.tok _)
theorem nd_getItem (hw : T.w = X.w) (hu : A.units + 9 < cLine) (I : Inv X pins σ H s) (g : RG X.K X.mg T ι Z H μ) (hm : μ[n]? = some (.dcn kvs)) (ha : ι[n]? = some a) {d x : D} {k : NestedKey} {v : V} {u : Value} (hk : nkT d = some k) (r : Rp X.K X.mg ι Z H d v) (rv : RelV v u) (hl : lookN kvs k = some x) {Q : Value → Shared → Prop}
    (h : ∀ y u' s', Inv X pins σ H s' → RelV y u' → Rp X.K X.mg ι Z H x y → Q u' s') : wpAny (model X.prog X.w) A (getItem (.ref a) u) Q E s := by
  obtain ⟨xs, h1, h2, h3, h4, h5⟩ := nd_mem hw g hm ha
  obtain ⟨ys, r1, dd⟩ := nd_dict I h1 h3 h4
  obtain ⟨b, rfl, ka, kd⟩ := key_ref hk r
  obtain rfl : u = Value.ref b := rv
  have his : (NK X).is s.heap k b := ⟨key_is I k _ _ ka rfl, kd⟩
  obtain ⟨l1, l2⟩ := look_at (k := k) h4 r1 h5
  obtain ⟨y, c, u', e, e2, e3⟩ := l1 x hl
  exact wpAny_getItem_heap (knd := NK X) (nk_room hu) his dd e (h y u' _ (I.tok _) e2 e3)
theorem nd_get (hw : T.w = X.w) (hu : A.units + 9 < cLine) (I : Inv X pins σ H s) (g : RG X.K X.mg T ι Z H μ) (hm : μ[n]? = some (.dcn kvs)) (ha : ι[n]? = some a) {d x : D} {k : NestedKey} {v y : V} {u uy : Value} (hk : nkT d = some k) (r : Rp X.K X.mg ι Z H d v) (rv : RelV v u) (rx : Rp X.K X.mg ι Z H x y) (ry : RelV y uy) {Q : Value → Shared → Prop}
    (h : ∀ y u' s', Inv X pins σ H s' → RelV y u' → Rp X.K X.mg ι Z H ((lookN kvs k).getD x) y → Q u' s') : wpAny (model X.prog X.w) A (call (.builtin "dict.get") [.ref a, u, uy]) Q E s := by
  obtain ⟨xs, h1, h2, h3, h4, h5⟩ := nd_mem hw g hm ha
  obtain ⟨ys, r1, dd⟩ := nd_dict I h1 h3 h4
  obtain ⟨b, rfl, ka, kd⟩ := key_ref hk r
  obtain rfl : u = Value.ref b := rv
  have his : (NK X).is s.heap k b := ⟨key_is I k _ _ ka rfl, kd⟩
  obtain ⟨l1, l2⟩ := look_at (k := k) h4 r1 h5
  refine call_meetsIn PySem.F.slot_dict_get dd.typeIs PySem.F.entry_dict_get (PySem.F.args_dict_get_3 _ _ _) (meetsH_dict_get_default (NK X) a b h2 uy) ⟨nk_room hu, k, ys, his, dd, ?_⟩
  cases q : lookN kvs k with
  | none =>
    rw [l2 q]
    exact h y _ _ (I.tok _) ry (by rw [q]; exact rx)
  | some d =>
    obtain ⟨z, c, u', e, e2, e3⟩ := l1 d q
    rw [e]
    exact h z _ _ (I.tok _) e2 (by rw [q]; exact e3)
end
/-! ### a dict is changed -/
section
variable {K : PySem.W.Frag} {mg : Str → Option Value} {ι Z : List Addr} {H : Hp} {k : NestedKey} {b : Addr} {v : V} {d : D}
def putX (xs : List (NestedKey × Addr × V)) (k : NestedKey) (b : Addr) (v : V) : List (NestedKey × Addr × V) := if (xs.any fun x => decide (x.1 = k)) = true then xs.map (fun x => if x.1 = k then (x.1, x.2.1, v) else x) else xs ++ [(k, b, v)]
theorem lookN_any : ∀ (kvs : List (NestedKey × D)), (lookN kvs k).isSome = kvs.any fun p => decide (p.1 = k)
  | [] => rfl
  | p :: ps => by
    rw [List.any_cons]
    by_cases e : p.1 = k
    · simp [lookN, e]
    · have : lookN (p :: ps) k = lookN ps k := by simp [lookN, e]
      rw [this, decide_eq_false e, Bool.false_or]
      exact lookN_any ps
theorem any_X : ∀ {kvs : List (NestedKey × D)} {xs : List (NestedKey × Addr × V)}, Paired (NdK K H) kvs xs → (xs.any fun x => decide (x.1 = k)) = kvs.any fun p => decide (p.1 = k)
  | _, _, .nil => rfl
  | _, _, .cons h t => by rw [List.any_cons, List.any_cons, any_X t, h.1]
theorem any_Y : ∀ {xs : List (NestedKey × Addr × V)} {ys : List (NestedKey × Addr × Value)}, NdX xs ys → (atKey ys k).isSome = xs.any fun x => decide (x.1 = k)
  | _, _, .nil => rfl
  | _, _, .cons (a := x) (b := y) (l₂ := ys) h t => by
    rw [List.any_cons]
    by_cases e : x.1 = k
    · have : y.1 = k := h.1.trans e
      simp [atKey, e, this]
    · have e2 : ¬ y.1 = k := fun z => e (h.1.symm.trans z)
      have : atKey (y :: ys) k = atKey ys k := by simp [atKey, e2]
      rw [this, decide_eq_false e, Bool.false_or]
      exact any_Y t
theorem putX_ok {kvs : List (NestedKey × D)} {xs : List (NestedKey × Addr × V)} (hk : KeyAt K H k (.ref b)) (kd : k.depth ≤ 8) (hd : Rp K mg ι Z H d v) (h : Paired (NdK K H) kvs xs) (r : Rps K mg ι Z H (kvs.map (·.2)) (xs.map (·.2.2))) :
    Paired (NdK K H) (putN kvs k d) (putX xs k b v) ∧ Rps K mg ι Z H ((putN kvs k d).map (·.2)) ((putX xs k b v).map (·.2.2)) := by
  unfold putN putX
  rw [lookN_any, any_X h]
  split
  · rename_i hany; clear hany
    induction h with
    | nil => exact ⟨.nil, r⟩
    | @cons p x ps xs h t ih =>
      obtain ⟨w, ws, e, g1, g2⟩ := r
      cases e
      obtain ⟨i1, i2⟩ := ih g2
      rw [List.map_cons, List.map_cons]
      by_cases e : p.1 = k
      · have e2 : x.1 = k := h.1.trans e
        rw [if_pos e, if_pos e2]
        exact ⟨.cons h i1, ⟨v, _, rfl, hd, i2⟩⟩
      · have e2 : ¬ x.1 = k := fun z => e (h.1.symm.trans z)
        rw [if_neg e, if_neg e2]
        exact ⟨.cons h i1, ⟨_, _, rfl, g1, i2⟩⟩
  · refine ⟨Paired.snoc h ⟨rfl, kd, hk⟩, ?_⟩
    rw [List.map_append, List.map_append]
    exact Rps.append r ⟨v, [], rfl, hd, rfl⟩
theorem putY_ok {xs : List (NestedKey × Addr × V)} {ys : List (NestedKey × Addr × Value)} {u : Value} (rv : RelV v u) (h : NdX xs ys) : NdX (putX xs k b v) (storedH ys k b u) := by
  unfold putX storedH
  rw [any_Y h]
  split
  · unfold NdX at h ⊢
    rename_i hany; clear hany
    induction h with
    | nil => exact .nil
    | @cons x y xs ys h t ih =>
      rw [List.map_cons, List.map_cons]
      refine .cons ?_ ih
      by_cases e : x.1 = k
      · rw [if_pos e, putAt, if_pos (h.1.trans e)]
        exact ⟨h.1, h.2.1, rv⟩
      · rw [if_neg e, putAt, if_neg (fun z => e (h.1.symm.trans z))]
        exact h
  · exact Paired.snoc h ⟨rfl, rfl, rv⟩
theorem putN_keys (kvs : List (NestedKey × D)) : (putN kvs k d).map (·.1) = if (lookN kvs k).isSome = true then kvs.map (·.1) else kvs.map (·.1) ++ [k] := by
  unfold putN
  split
  · rw [List.map_map]
    refine List.map_congr_left fun p _ => ?_
    show (if p.1 = k then (p.1, d) else p).1 = p.1
    split <;> rfl
  · rw [List.map_append]; rfl
theorem putN_nodup {kvs : List (NestedKey × D)} (h : (kvs.map (·.1)).Nodup) : ((putN kvs k d).map (·.1)).Nodup := by
  rw [putN_keys]
  split
  · exact h
  · rename_i q
    rw [List.nodup_append]
    refine ⟨h, by simp, fun x hx y hy => ?_⟩
    rw [List.mem_singleton.mp hy]
    intro e
    subst e
    refine q ?_
    rw [lookN_any, List.any_eq_true]
    obtain ⟨p, hp, rfl⟩ := List.mem_map.mp hx
    exact ⟨p, hp, by simp⟩
end
section
variable {X : Cx} {T : TW} {pins : List (Addr × Obj)} {σ : L2.St} {H : Hp} {s : Shared} {ι Z : List Addr} {μ : List Mo} {n : Nat} {kvs : List (NestedKey × D)} {a : Addr} {A : Around} {E : Value → Shared → Prop}
theorem nd_setItem (hw : T.w = X.w) (hu : A.units + 9 < cLine) (I : Inv X pins σ H s) (g : RG X.K X.mg T ι Z H μ) (hm : μ[n]? = some (.dcn kvs)) (ha : ι[n]? = some a) {d x : D} {k : NestedKey} {v y : V} {u uy : Value} (hk : nkT d = some k) (r : Rp X.K X.mg ι Z H d v) (rv : RelV v u) (rx : Rp X.K X.mg ι Z H x y) (ry : RelV y uy) (hz : kvs.length ≤ sizeLine) {Q : Unit → Shared → Prop}
    (h : ∀ xs' s', Inv X pins σ (upd H a (NDo X.w a xs')) s' → Paired (NdK X.K H) (putN kvs k x) xs' → Rps X.K X.mg ι Z H ((putN kvs k x).map (·.2)) (xs'.map (·.2.2)) → Q () s') : wpAny (model X.prog X.w) A (setItem (.ref a) u uy) Q E s := by
  obtain ⟨xs, h1, h2, h3, h4, h5⟩ := nd_mem hw g hm ha
  obtain ⟨ys, r1, dd⟩ := nd_dict I h1 h3 h4
  obtain ⟨b, rfl, ka, kd⟩ := key_ref hk r
  obtain rfl : u = Value.ref b := rv
  have his : (NK X).is s.heap k b := ⟨key_is I k _ _ ka rfl, kd⟩
  obtain ⟨p1, p2⟩ := putX_ok (b := b) ka kd rx h4 h5
  refine wpAny_setItem_heap (knd := NK X) (hsz := by rw [← Paired.length r1, ← Paired.length h4]; exact hz) (nk_room hu) his dd fun h' dd' hs => h _ _ ?_ p1 p2
  have he : ∃ q, h'.get? a = some q := let ⟨q, _, _, hq, _⟩ := dd'; ⟨q, hq⟩
  exact d_write I (by rw [h1]; exact True.intro) hs he (nd_ok (putY_ok ry r1) dd')
end
end Mi
set_option Elab.async false
set_option linter.all false
set_option maxRecDepth 100000
set_option maxHeartbeats 4000000
/-! Mw: more operators: tuple * int of any count, order of tuples, in, is. -/
namespace Mi
open PySem PySem.Spec PyProof.Rows L2
theorem tuple_mul_same (l : Addr) (items : Array Value) (n : Nat) (dd : Option Addr) (sl : Array (Option Value)) (x : Int) (u : Tok) (c0 : (decide (x < -(2 ^ 63)) || decide (x ≥ 2 ^ 63)) = false) (c1 : (items.isEmpty || x == 1) = true) :
    Meets (Builtin.«tuple.__mul__» ⟨[.ref l, .int x u], []⟩) (fun _ R s => s.heap.get? l = some { cls := .type "tuple", dict := dd, data := .seq items n, slots := sl } ∧ R (.ok (.ret (Value.ref l))) s) :=
  .of_wp fun prog w A R s h => by
    obtain ⟨hp, g, d, tk, os⟩ := s
    obtain ⟨hl, h⟩ := h
    have f1 := AutoSeq1.idx_int
    wp_walk using wpAny_loadPart' hl
    repeat (first
      | (refine wpAny_ite_false (decide_eq_false (by rw [c0]; exact Bool.false_ne_true)) ?_; wp_walk using wpAny_loadPart' hl)
      | (refine wpAny_ite_true (decide_eq_true c1) ?_; wp_walk using wpAny_loadPart' hl))
    exact ⟨_, rfl, h⟩
theorem tuple_mul_none (l : Addr) (items : Array Value) (n : Nat) (dd : Option Addr) (sl : Array (Option Value)) (x : Int) (u : Tok) (c0 : (decide (x < -(2 ^ 63)) || decide (x ≥ 2 ^ 63)) = false) (c1 : (items.isEmpty || x == 1) = false) (c2 : (decide (x ≤ 0) || items.isEmpty) = true) :
    Meets (Builtin.«tuple.__mul__» ⟨[.ref l, .int x u], []⟩) (fun _ R s => s.heap.get? l = some { cls := .type "tuple", dict := dd, data := .seq items n, slots := sl } ∧
      R (.ok (.ret (Value.ref s.heap.objs.size))) { s with heap := s.heap.push { cls := Value.type "tuple", data := Data.seq #[] }, toks := s.toks }) :=
  .of_wp fun prog w A R s h => by
    obtain ⟨hp, g, d, tk, os⟩ := s
    obtain ⟨hl, h⟩ := h
    have f1 := AutoSeq1.idx_int
    wp_walk using wpAny_loadPart' hl
    repeat (first
      | (refine wpAny_ite_false (decide_eq_false (by rw [c0]; exact Bool.false_ne_true)) ?_; wp_walk using wpAny_loadPart' hl)
      | (refine wpAny_ite_false (decide_eq_false (by rw [c1]; exact Bool.false_ne_true)) ?_; wp_walk using wpAny_loadPart' hl)
      | (refine wpAny_ite_true (decide_eq_true c2) ?_; wp_walk using wpAny_loadPart' hl))
    exact ⟨_, rfl, h⟩
section
variable {X : Cx}
/-- t * k of any count *-/
def rRepA (K : PySem.W.Frag) : R2 := fun x y H Q => ∃ l k xs, x = .ref l ∧ y = .int k ∧ SqT K H l xs ∧ -(2 ^ 63) ≤ k ∧ k ≤ 1000 ∧ xs.length ≤ 1000 ∧
  ((xs = [] ∨ k = 1) → Q (.ref l) H) ∧ (xs ≠ [] → k ≠ 1 → ∀ p, H p = none → Q (.ref p) (upd H p (.tup (List.replicate k.toNat xs).flatten)))
theorem op_repA : OpR X (binaryOp .Mult) (rRepA X.K) := by
  intro pins s σ H x y v u Q I rx ry h
  obtain ⟨l, k, xs, rfl, rfl, hT, h1, h2, hz, q1, q2⟩ := h
  by_cases hb : xs ≠ [] ∧ 2 ≤ k
  · exact op_repT pins s σ H _ _ v u Q I rx ry ⟨l, k, xs, rfl, rfl, hT, hb.1, hb.2, h2, hz, q2 hb.1 (by omega)⟩
  · cases rx
    obtain ⟨t, rfl⟩ := ry
    obtain ⟨its, r, ⟨⟨cls, dd, data, sl⟩, ho, hc, n, hd⟩, hs⟩ := I.tuple hT
    simp only at hc hd
    subst hc hd
    have hle : its.length = xs.length := r.length.symm
    have c0 : (decide (k < -(2 ^ 63)) || decide (k ≥ 2 ^ 63)) = false := by
      rw [decide_eq_false (by omega), decide_eq_false (by omega)] <;> rfl
    by_cases h3 : xs = [] ∨ k = 1
    · have c1 : (its.toArray.isEmpty || k == 1) = true := by
        rcases h3 with e | e
        · subst e
          have : its = [] := List.eq_nil_of_length_eq_zero hle
          subst this; rfl
        · subst e; simp
      exact wpAny_binaryOp_repeat_ref (T := "tuple") (U := "int") (by decide) ⟨_, ho, rfl⟩ (fun s' => typeIs_int s' k t) noFill_tuple_mul F.fills_int_mul F.slot_int_rmul repeat_tuple F.slot_int_index.lookup
        (call_meets F.slot_int_rmul (typeIs_int s k t) F.entry_int_rmul (F.args_int_rmul_2 _ _) (int_rmul_tuple k t l its.toArray n dd sl)
          ⟨ho, rfl, ⟨_, ho, rfl⟩, call_meets F.slot_tuple_mul ⟨_, ho, rfl⟩ F.entry_tuple_mul (F.args_tuple_mul_2 _ _) (tuple_mul_same l its.toArray n dd sl k t c0 c1) ⟨ho, .ref l, H, I, rfl, q1 h3⟩⟩)
    · have hne : xs ≠ [] := fun e => h3 (.inl e)
      have hk1 : k ≠ 1 := fun e => h3 (.inr e)
      have hk : k ≤ 0 := by
        have : ¬ 2 ≤ k := fun z => hb ⟨hne, z⟩
        omega
      have hi : its.toArray.isEmpty = false := by
        cases its with
        | nil => exact absurd (List.eq_nil_of_length_eq_zero hle.symm) hne
        | cons a b => rfl
      have c1 : (its.toArray.isEmpty || k == 1) = false := by
        rw [hi, Bool.false_or]
        exact beq_eq_false_iff_ne.mpr hk1
      have c2 : (decide (k ≤ 0) || its.toArray.isEmpty) = true := by rw [decide_eq_true hk]; rfl
      have ez : List.replicate k.toNat xs = [] := by
        rw [show k.toNat = 0 by omega]; rfl
      have q3 := q2 hne hk1
      rw [ez] at q3
      exact wpAny_binaryOp_repeat_ref (T := "tuple") (U := "int") (by decide) ⟨_, ho, rfl⟩ (fun s' => typeIs_int s' k t) noFill_tuple_mul F.fills_int_mul F.slot_int_rmul repeat_tuple F.slot_int_index.lookup
        (call_meets F.slot_int_rmul (typeIs_int s k t) F.entry_int_rmul (F.args_int_rmul_2 _ _) (int_rmul_tuple k t l its.toArray n dd sl)
          ⟨ho, rfl, ⟨_, ho, rfl⟩, call_meets F.slot_tuple_mul ⟨_, ho, rfl⟩ F.entry_tuple_mul (F.args_tuple_mul_2 _ _) (tuple_mul_none l its.toArray n dd sl k t c0 c1 c2)
            ⟨ho, .ref s.heap.objs.size, _, I.laid (t' := s.toks) (o := .tup []) (fun b ob q => Heap.get?_push_of_some _ q) (Nat.le_refl _) ⟨Nat.zero_le _, [], .nil, IsTup.new _ _⟩, rfl, q3 _ (I.hok.fresh (Nat.le_refl _))⟩⟩)
end
section
variable {X : Cx} {T : TW}
theorem mulOk_ok {i j : Int} (h : mulOk i j = true) : CMul i j ∨ CMulW i j := by
  unfold mulOk small64 at h
  simp only [Bool.or_eq_true, decide_eq_true_eq] at h
  rcases h with (h | h) | h
  · exact .inl (.inl h)
  · exact .inl (.inr h)
  · exact .inr h
theorem Rps.rep {K : PySem.W.Frag} {mg : Str → Option Value} {ι Z : List Addr} {H : Hp} {ds : List D} {vs : List V} (h : Rps K mg ι Z H ds vs) : ∀ n : Nat, Rps K mg ι Z H (List.replicate n ds).flatten (List.replicate n vs).flatten
  | 0 => rfl
  | n + 1 => by
    rw [List.replicate_succ, List.replicate_succ, List.flatten_cons, List.flatten_cons]
    exact h.append (Rps.rep h n)
theorem mulOk_str {x : Str} {k : Int} (h1 : 2 ≤ k) (h2 : k ≤ 1000) (h3 : x.length ≤ 1000) : MulOk x k := by
  refine ⟨by simp; omega, fun _ _ => ?_, fun _ _ => ?_⟩
  · have h4 : (1000 : Int) ≤ (2 ^ 63 - 1) / k := by
      rw [Int.le_ediv_iff_mul_le (by omega)]
      have : (2 ^ 63 : Int) = 9223372036854775808 := by decide
      omega
    omega
  · have h4 : x.length * k.toNat ≤ 1000 * 1000 := Nat.mul_le_mul h3 (by omega)
    unfold Builtin.Str.tooLong
    rw [sizeLine_eq]
    simp
    omega
theorem ok_mul : OpR X (binaryOp .Mult) (r2 X.K X.mg T .mul) := by
  intro pins s σ H x y v u Q I rx ry h
  obtain ⟨ι, Z, μ, d, e, r, g, hd, he, ho, q⟩ := h
  simp only [Op.do, mulD] at ho
  split at ho
  · split at ho <;> cases ho
    rename_i hc
    rcases mulOk_ok hc with hc | hc
    · exact op_mul pins s σ H x y v u Q I rx ry ⟨_, _, hd, he, hc, q ι _ H Ext.refl g rfl⟩
    · exact op_mulW pins s σ H x y v u Q I rx ry ⟨_, _, hd, he, hc, q ι _ H Ext.refl g rfl⟩
  · cases ho
    have hd' : x = V.int _ := hd
    have he' : y = V.bl _ := he
    subst hd' he'
    cases ry
    obtain ⟨t', rfl⟩ := rx
    exact PySem.IntBool.mul_int_bool ⟨.int _, H, I.tok _, ⟨_, rfl⟩, q ι _ H Ext.refl g rfl⟩
  · split at ho <;> cases ho
    rename_i hc
    simp only [Bool.and_eq_true, decide_eq_true_eq] at hc
    have hd' : x = V.str _ := hd
    have he' : y = V.int _ := he
    subst hd' he'
    obtain ⟨t, rfl⟩ := rx
    obtain ⟨t', rfl⟩ := ry
    exact SB.mul (mulOk_str hc.1.1 hc.1.2 hc.2) fun t' k => ⟨.str _, H, I.tok _, ⟨_, rfl⟩, q ι _ H Ext.refl g rfl⟩
  · rename_i xs k
    split at ho <;> cases ho
    rename_i hc
    simp only [Bool.and_eq_true, decide_eq_true_eq] at hc
    obtain ⟨a, vs, rfl, h1, h2⟩ := hd
    have hl := h2.length
    refine op_repA pins s σ H _ _ v u Q I rx ry ⟨a, k, vs, rfl, he, h1.sq, hc.1.1, hc.1.2, by omega, fun z => ?_, fun z1 z2 p hp => q ι _ _ (ext_fresh hp) (g.fresh hp) (Rp.newT hp (h2.rep _))⟩
    rcases z with z | z
    · have := h2.nil_iff.mp z
      subst this
      refine q ι _ H Ext.refl g ⟨a, vs, rfl, h1, ?_⟩
      rw [show (List.replicate k.toNat ([] : List D)).flatten = [] by simp]
      exact h2
    · subst z
      refine q ι _ H Ext.refl g ⟨a, vs, rfl, h1, ?_⟩
      rw [show (List.replicate (1 : Int).toNat xs).flatten = xs by simp]
      exact h2
  · rename_i xs k
    split at ho <;> cases ho
    rename_i hc
    simp only [Bool.and_eq_true, decide_eq_true_eq] at hc
    obtain ⟨a, vs, rfl, ⟨h1, h3⟩, h2⟩ := hd
    have hl := h2.length
    exact op_rep pins s σ H _ _ v u Q I rx ry ⟨a, k, vs, rfl, he, h1, hc.1.1, hc.1.2, by rw [← hl]; exact hc.2, fun p hp => q ι _ _ (ext_fresh hp) (g.fresh hp) (Rp.newL g hp (h2.rep _))⟩
  · cases ho
/-! ### order -/
theorem lexLt_eq : ∀ (xs ys : List Int), HT.lexLt xs ys = lexC .lt xs ys
  | [], [] => rfl
  | [], _ :: _ => rfl
  | _ :: _, [] => rfl
  | x :: xs, y :: ys => by
    rw [HT.lexLt_cons, lexC, lexLt_eq xs ys]; rfl
theorem lexAt_eq (c : Cm) (ok : ∀ i j, c.int i j = (match c with | .le => decide (i ≤ j) | .gt => decide (j < i) | .ge => decide (j ≤ i) | .lt => decide (i < j))) : ∀ (xs ys : List Int),
    Ob.lexAt (fun j => decide (xs.getD j 0 = ys.getD j 0)) (fun j => c.int (xs.getD j 0) (ys.getD j 0)) (c.int xs.length ys.length) 0 (min xs.length ys.length) = lexC c xs ys := by
  have gen : ∀ (k : Nat) (xs ys : List Int) (f g : Nat → Bool) (z : Bool) (i : Nat), (∀ j, f (i + j) = decide (xs.getD j 0 = ys.getD j 0)) → (∀ j, g (i + j) = c.int (xs.getD j 0) (ys.getD j 0)) → z = c.int xs.length ys.length → k = min xs.length ys.length →
      Ob.lexAt f g z i k = lexC c xs ys := by
    intro k
    induction k with
    | zero =>
      intro xs ys f g z i hf hg hz hk
      rw [Ob.lexAt_zero, hz]
      cases xs with
      | nil =>
        cases ys with
        | nil => rfl
        | cons y ys => cases c <;> simp [lexC, Cm.int] <;> omega
      | cons x xs =>
        cases ys with
        | nil => cases c <;> simp [lexC, Cm.int] <;> omega
        | cons y ys => simp only [List.length_cons] at hk; omega
    | succ k ih =>
      intro xs ys f g z i hf hg hz hk
      cases xs with
      | nil => simp at hk
      | cons x xs =>
        cases ys with
        | nil => simp at hk
        | cons y ys =>
          rw [Ob.lexAt_succ]
          have h0 := hf 0
          have g0 := hg 0
          simp only [Nat.add_zero, List.getD_cons_zero] at h0 g0
          rw [h0, g0, lexC]
          by_cases e : x = y
          · simp only [e, decide_true, if_true]
            refine ih xs ys f g z (i + 1) (fun j => ?_) (fun j => ?_) ?_ ?_
            · have := hf (j + 1)
              simp only [List.getD_cons_succ] at this
              rw [← this]; congr 1; omega
            · have := hg (j + 1)
              simp only [List.getD_cons_succ] at this
              rw [← this]; congr 1; omega
            · rw [hz]
              cases c <;> simp [Cm.int]
            · simp only [List.length_cons] at hk; omega
          · simp [e]
  intro xs ys
  exact gen _ xs ys _ _ _ 0 (fun j => by rw [Nat.zero_add]) (fun j => by rw [Nat.zero_add]) rfl rfl
theorem at_int {its : List Value} {ns : List Int} (i1 : IntsAre its ns) : ∀ j (h1 : j < its.toArray.size), ∃ t, its.toArray[j] = .int (ns.getD j 0) t :=
  fun j h1 => PyProof.Rows.IntsAre.int_at i1 _ _ (by simp at h1; simp [h1])
def Cm.op : Cm → CmpOp
  | .lt => .Lt
  | .le => .LtE
  | .gt => .Gt
  | .ge => .GtE
theorem cm_tup (c : Cm) (hu : X.A.units < cLine) {pins : List (Addr × Obj)} {s : Shared} {σ : L2.St} {H : Hp} {a b : Addr} {ns ms : List Int} {Q : VK} (I : Inv X pins σ H s) (ha : SqT X.K H a (ns.map V.int)) (hb : SqT X.K H b (ms.map V.int)) (q : Q (.bl (lexC c ns ms)) H) :
    wpAny (model X.prog X.w) X.A (compareOp c.op (.ref a) (.ref b)) (EP X pins σ Q) X.xe s := by
  obtain ⟨its, r1, p1, _⟩ := I.tuple ha
  obtain ⟨its2, r2, p2, _⟩ := I.tuple hb
  have i1 : IntsAre its ns := Vals.ints r1
  have i2 : IntsAre its2 ms := Vals.ints r2
  have e1 : its.toArray.size = ns.length := by rw [List.size_toArray]; exact i1.length
  have e2 : its2.toArray.size = ms.length := by rw [List.size_toArray]; exact i2.length
  have at1 := at_int i1
  have at2 := at_int i2
  have he : ∀ j (h1 : j < its.toArray.size) (h2 : j < its2.toArray.size), SeqAt.EqAt X.A.in1 s its.toArray[j] its2.toArray[j] (decide (ns.getD j 0 = ms.getD j 0)) := fun j h1 h2 => by
    obtain ⟨t, et⟩ := at1 j h1
    obtain ⟨t', et'⟩ := at2 j h2
    rw [et, et']
    have z : (ns.getD j 0 == ms.getD j 0) = decide (ns.getD j 0 = ms.getD j 0) := by
      by_cases q : ns.getD j 0 = ms.getD j 0
      · rw [decide_eq_true q]; exact beq_iff_eq.mpr q
      · rw [decide_eq_false q]; exact beq_eq_false_iff_ne.mpr q
    rw [← z]
    exact SeqAt.EqAt.int_int _ _ _ _
  cases c with
  | lt =>
    rw [← lexLt_eq] at q
    exact op_ltT hu pins s σ H (.ref a) (.ref b) _ _ Q I rfl rfl ⟨a, b, ns, ms, rfl, rfl, ha, hb, q⟩
  | le =>
    have R := Ob.RcOp.tuples_le (A := X.A) (s := s) (e := fun j => decide (ns.getD j 0 = ms.getD j 0)) (r := fun j => Cm.int .le (ns.getD j 0) (ms.getD j 0)) p1 p2 hu he (fun j h1 h2 _ => by
      obtain ⟨t, et⟩ := at1 j h1
      obtain ⟨t', et'⟩ := at2 j h2
      rw [et, et']
      exact Ob.RcOp.le_int _ _ _ _)
    rw [e1, e2] at R
    have el := lexAt_eq .le (fun _ _ => rfl) ns ms
    rw [show Cm.int .le (ns.length : Int) (ms.length : Int) = decide (ns.length ≤ ms.length) by simp [Cm.int]] at el
    rw [el] at R
    have z : wpAny (model X.prog X.w) X.A (compareOp .LtE (.ref a) (.ref b)) (EP X pins σ Q) X.xe s := R X.prog X.w X.xe (EP X pins σ Q) ⟨.bl _, H, I, rfl, q⟩
    exact z
  | gt =>
    have R := Ob.RcOp.tuples_gt (A := X.A) (s := s) (e := fun j => decide (ns.getD j 0 = ms.getD j 0)) (r := fun j => Cm.int .gt (ns.getD j 0) (ms.getD j 0)) p1 p2 hu he (fun j h1 h2 _ => by
      obtain ⟨t, et⟩ := at1 j h1
      obtain ⟨t', et'⟩ := at2 j h2
      rw [et, et']
      exact Ob.RcOp.gt_int _ _ _ _)
    rw [e1, e2] at R
    have el := lexAt_eq .gt (fun _ _ => rfl) ns ms
    rw [show Cm.int .gt (ns.length : Int) (ms.length : Int) = decide (ns.length > ms.length) by simp [Cm.int]] at el
    rw [el] at R
    have z : wpAny (model X.prog X.w) X.A (compareOp .Gt (.ref a) (.ref b)) (EP X pins σ Q) X.xe s := R X.prog X.w X.xe (EP X pins σ Q) ⟨.bl _, H, I, rfl, q⟩
    exact z
  | ge =>
    have R := Ob.RcOp.tuples_ge (A := X.A) (s := s) (e := fun j => decide (ns.getD j 0 = ms.getD j 0)) (r := fun j => Cm.int .ge (ns.getD j 0) (ms.getD j 0)) p1 p2 hu he (fun j h1 h2 _ => by
      obtain ⟨t, et⟩ := at1 j h1
      obtain ⟨t', et'⟩ := at2 j h2
      rw [et, et']
      exact Ob.RcOp.ge_int _ _ _ _)
    rw [e1, e2] at R
    have el := lexAt_eq .ge (fun _ _ => rfl) ns ms
    rw [show Cm.int .ge (ns.length : Int) (ms.length : Int) = decide (ns.length ≥ ms.length) by simp [Cm.int]] at el
    rw [el] at R
    have z : wpAny (model X.prog X.w) X.A (compareOp .GtE (.ref a) (.ref b)) (EP X pins σ Q) X.xe s := R X.prog X.w X.xe (EP X pins σ Q) ⟨.bl _, H, I, rfl, q⟩
    exact z
theorem ok_cm (c : Cm) (hu : X.A.units < cLine) : OpR X (compareOp c.op) (r2 X.K X.mg T (.cm c)) := by
  intro pins s σ H x y v u Q I rx ry h
  obtain ⟨ι, Z, μ, d, e, r, g, hd, he, ho, q⟩ := h
  simp only [Op.do, Option.map_eq_some_iff] at ho
  obtain ⟨b, ho, rfl⟩ := ho
  unfold cmD at ho
  split at ho
  · rename_i i j
    cases ho
    have hq := q ι (.bl (c.int i j)) H Ext.refl g rfl
    cases c with
    | lt => exact op_lt pins s σ H x y v u Q I rx ry ⟨i, j, hd, he, hq⟩
    | le => exact op_le pins s σ H x y v u Q I rx ry ⟨i, j, hd, he, hq⟩
    | gt => exact op_gt pins s σ H x y v u Q I rx ry ⟨i, j, hd, he, hq⟩
    | ge => exact op_ge pins s σ H x y v u Q I rx ry ⟨i, j, hd, he, hq⟩
  · rename_i xs ys
    simp only [Option.bind_eq_some_iff, Option.map_eq_some_iff] at ho
    obtain ⟨ns, e1, ms, e2, rfl⟩ := ho
    have e1 := intsOf_eq e1
    have e2 := intsOf_eq e2
    subst e1 e2
    obtain ⟨a, vs, rfl, h1, h2⟩ := hd
    obtain ⟨b, ws, rfl, h3, h4⟩ := he
    have := h2.ints_inv
    subst this
    have := h4.ints_inv
    subst this
    cases rx
    cases ry
    exact cm_tup c hu I h1.sq h3.sq (q ι _ H Ext.refl g rfl)
  · cases ho
/-! ### in, is -/
theorem tup_dp (hu : X.A.units + 65 < cLine) {pins : List (Addr × Obj)} {s : Shared} {σ : L2.St} {H : Hp} {x y : V} {v u : Value} {d : PyData} {ds : List PyData} {Q : VK} (I : Inv X pins σ H s) (rx : RelV x v) (ry : RelV y u) (hd : Dp X.K H x d) (he : Dp X.K H y (.tuple ds))
    (sd : SeqAt.shaped d = true) (se : SeqAt.shaped (.tuple ds) = true) : (Q (.bl (ds.any fun z => PyData.eqv z d)) H → wpAny (model X.prog X.w) X.A (compareOp .In v u) (EP X pins σ Q) X.xe s) ∧
      (Q (.bl (!ds.any fun z => PyData.eqv z d)) H → wpAny (model X.prog X.w) X.A (compareOp .NotIn v u) (EP X pins σ Q) X.xe s) := by
  obtain ⟨as, r1⟩ := Dp.reads I d x v hd rx
  obtain ⟨bs, r2⟩ := Dp.reads I (.tuple ds) y u he ry
  have hxs : PyData.canLayAll0 ds = true := SeqAt.canLay_of_shaped se
  have hroom : X.A.units + 1 + min (PyData.depthAll ds) d.depth < cLine := by
    have h1 := SeqAt.depth_of_shaped sd
    have h2 : min (PyData.depthAll ds) d.depth ≤ d.depth := Nat.min_le_right _ _
    omega
  exact ⟨fun q => SeqAt.in_tuple_reads r2 r1 hxs (SeqAt.canLay_of_shaped sd) hroom ⟨.bl _, H, I, rfl, q⟩, fun q => SeqAt.notIn_tuple_reads r2 r1 hxs (SeqAt.canLay_of_shaped sd) hroom ⟨.bl _, H, I, rfl, q⟩⟩
theorem in_both (hw : T.w = X.w) (hu : X.A.units + 65 < cLine) {pins : List (Addr × Obj)} {s : Shared} {σ : L2.St} {H : Hp} {x y : V} {v u : Value} {ι Z : List Addr} {μ : List Mo} {d e : D} {r : Bool} (I : Inv X pins σ H s) (rx : RelV x v) (ry : RelV y u)
    (g : RG X.K X.mg T ι Z H μ) (hd : Rp X.K X.mg ι Z H d x) (he : Rp X.K X.mg ι Z H e y) (ho : inD μ d e = some r) {Q : VK} :
    (Q (.bl r) H → wpAny (model X.prog X.w) X.A (compareOp .In v u) (EP X pins σ Q) X.xe s) ∧ (Q (.bl (!r)) H → wpAny (model X.prog X.w) X.A (compareOp .NotIn v u) (EP X pins σ Q) X.xe s) := by
  unfold inD at ho
  split at ho
  · rename_i n ez
    have ez := see_of ez (fun _ z => by cases z)
    subst ez
    split at ho
    · rename_i kvs hm
      simp only [Option.map_eq_some_iff] at ho
      obtain ⟨k, hk, rfl⟩ := ho
      obtain ⟨a, rfl, ha⟩ := he
      obtain rfl : u = Value.ref a := ry
      have h := nd_in (A := X.A) (E := X.xe) hw (by omega) I g hm ha hk hd rx (Q := EP X pins σ Q)
      exact ⟨fun q => h.1 fun s' I' => ⟨.bl _, H, I', rfl, q⟩, fun q => h.2 fun s' I' => ⟨.bl _, H, I', rfl, q⟩⟩
    · cases ho
  · rename_i z ez
    have ez := see_of ez (fun _ z => by cases z)
    subst ez
    split at ho
    · rename_i xx
      cases ho
      exact ⟨fun q => op_in_str pins s σ H x y v u Q I rx ry ⟨xx, z, hd, he, q⟩, fun q => op_notin_str pins s σ H x y v u Q I rx ry ⟨xx, z, hd, he, q⟩⟩
    · cases ho
  · rename_i ds ez
    have ez := see_of ez (fun _ z => by cases z)
    subst ez
    simp only [Option.bind_eq_some_iff] at ho
    obtain ⟨p, e1, qs, e2, ho⟩ := ho
    split at ho <;> cases ho
    rename_i hs
    rw [Bool.and_eq_true] at hs
    obtain ⟨a, vs, rfl, h1, h2⟩ := he
    exact tup_dp hu I rx ry (dp_see g hd e1) (.tup h1.sq (dps_of ds vs qs h2 e2)) hs.1 hs.2
  · rename_i ds ez
    simp only [Option.bind_eq_some_iff] at ho
    obtain ⟨p, e1, qs, e2, ho⟩ := ho
    split at ho <;> cases ho
    rename_i hs
    rw [Bool.and_eq_true] at hs
    obtain ⟨a, vs, rfl, h1, h2⟩ := see_lst g ez he
    exact ⟨fun q => op_inD hu pins s σ H x _ v u Q I rx ry ⟨p, qs, dp_see g hd e1, .lst (SqL.of h1) (dps_of ds vs qs h2 e2), hs.1, hs.2, q⟩,
      fun q => op_notInD hu pins s σ H x _ v u Q I rx ry ⟨p, qs, dp_see g hd e1, .lst (SqL.of h1) (dps_of ds vs qs h2 e2), hs.1, hs.2, q⟩⟩
  · cases ho
theorem ok_in (hw : T.w = X.w) (hu : X.A.units + 65 < cLine) : OpR X (compareOp .In) (r2 X.K X.mg T .in_) := by
  intro pins s σ H x y v u Q I rx ry h
  obtain ⟨ι, Z, μ, d, e, r, g, hd, he, ho, q⟩ := h
  simp only [Op.do, Option.map_eq_some_iff] at ho
  obtain ⟨b, ho, rfl⟩ := ho
  exact (in_both hw hu I rx ry g hd he ho).1 (q ι _ H Ext.refl g rfl)
theorem ok_nin (hw : T.w = X.w) (hu : X.A.units + 65 < cLine) : OpR X (compareOp .NotIn) (r2 X.K X.mg T .nin) := by
  intro pins s σ H x y v u Q I rx ry h
  obtain ⟨ι, Z, μ, d, e, r, g, hd, he, ho, q⟩ := h
  simp only [Op.do, Option.map_eq_some_iff] at ho
  obtain ⟨b, ho, rfl⟩ := ho
  exact (in_both hw hu I rx ry g hd he ho).2 (q ι _ H Ext.refl g rfl)
theorem is_shape {K : PySem.W.Frag} {mg : Str → Option Value} {ι Z : List Addr} {H : Hp} {d e : D} {x y : V} {r : Bool} (hd : Rp K mg ι Z H d x) (he : Rp K mg ι Z H e y) (h : isD d e = some r) :
    (∃ a b, x = .bl a ∧ y = .bl b ∧ r = decide (a = b)) ∨ (y = .non ∧ r = decide (x = .non)) := by
  unfold isD at h
  split at h <;> cases h
  · exact .inl ⟨_, _, hd, he, rfl⟩
  · exact .inr ⟨he, by rw [show x = V.non from hd]; rfl⟩
  · exact .inr ⟨he, by rw [show x = V.bl _ from hd]; rfl⟩
  · exact .inr ⟨he, by rw [show x = V.int _ from hd]; rfl⟩
  · exact .inr ⟨he, by rw [show x = V.str _ from hd]; rfl⟩
  · obtain ⟨a, vs, rfl, _⟩ := hd; exact .inr ⟨he, rfl⟩
  · obtain ⟨a, vs, rfl, _⟩ := hd; exact .inr ⟨he, rfl⟩
  · obtain ⟨a, rfl, _⟩ := hd; exact .inr ⟨he, rfl⟩
theorem ok_is : OpR X (compareOp .Is) (r2 X.K X.mg T .is_) := by
  intro pins s σ H x y v u Q I rx ry h
  obtain ⟨ι, Z, μ, d, e, r, g, hd, he, ho, q⟩ := h
  simp only [Op.do, Option.map_eq_some_iff] at ho
  obtain ⟨b, ho, rfl⟩ := ho
  rcases is_shape hd he ho with ⟨a, c, rfl, rfl, rfl⟩ | ⟨rfl, rfl⟩
  · exact op_is_bl pins s σ H _ _ v u Q I rx ry ⟨a, c, rfl, rfl, q ι _ H Ext.refl g rfl⟩
  · exact op_isN pins s σ H x _ v u Q I rx ry ⟨rfl, q ι _ H Ext.refl g rfl⟩
theorem ok_isn : OpR X (compareOp .IsNot) (r2 X.K X.mg T .isn) := by
  intro pins s σ H x y v u Q I rx ry h
  obtain ⟨ι, Z, μ, d, e, r, g, hd, he, ho, q⟩ := h
  simp only [Op.do, Option.map_eq_some_iff] at ho
  obtain ⟨b, ho, rfl⟩ := ho
  rcases is_shape hd he ho with ⟨a, c, rfl, rfl, rfl⟩ | ⟨rfl, rfl⟩
  · exact op_isnot_bl pins s σ H _ _ v u Q I rx ry ⟨a, c, rfl, rfl, q ι _ H Ext.refl g rfl⟩
  · exact op_notN pins s σ H x _ v u Q I rx ry ⟨rfl, q ι _ H Ext.refl g rfl⟩
end
end Mi
set_option Elab.async false
set_option linter.all false
set_option maxRecDepth 100000
set_option maxHeartbeats 4000000
/-! Mx: built-ins, items, slices. -/
namespace Mi
open PySem PySem.Spec PyProof.Rows L2
def rb (K : PySem.W.Frag) (mg : Str → Option Value) (T : TW) (f : Bi) : List V → Hp → VK → Prop := fun vs H Q => ∃ ι Z μ ds r, RG K mg T ι Z H μ ∧ Rps K mg ι Z H ds vs ∧ f.do μ ds = some r ∧
  ∀ ι' v H', Ext ι [] H ι' H' → RG K mg T ι' Z H' μ → Rp K mg ι' Z H' r v → Q v H'
section
variable {X : Cx} {T : TW}
def Bi.two : Bi → Bool
  | .min => true
  | .max => true
  | .isi => true
  | .split => true
  | .join => true
  | _ => false
theorem do1 {f : Bi} {μ : List Mo} {ds : List D} {r : D} (hf : f.two = false) (h : f.do μ ds = some r) : ∃ a, ds = [a] := by
  match ds, h with
  | [], h => simp [Bi.do] at h
  | [a], _ => exact ⟨a, rfl⟩
  | [a, b], h => cases f <;> first | (cases hf; done) | (simp [Bi.do] at h; done)
  | _ :: _ :: _ :: _, h => simp [Bi.do] at h
theorem do2 {f : Bi} {μ : List Mo} {ds : List D} {r : D} (hf : f.two = true) (h : f.do μ ds = some r) : ∃ a b, ds = [a, b] := by
  match ds, h with
  | [], h => simp [Bi.do] at h
  | [a], h => cases f <;> first | (cases hf; done) | (simp [Bi.do] at h; done)
  | [a, b], h => exact ⟨a, b, rfl⟩
  | _ :: _ :: _ :: _, h => simp [Bi.do] at h
theorem Rps.two {K : PySem.W.Frag} {mg : Str → Option Value} {ι Z : List Addr} {H : Hp} {d e : D} {vs : List V} (h : Rps K mg ι Z H [d, e] vs) : ∃ v w, vs = [v, w] ∧ Rp K mg ι Z H d v ∧ Rp K mg ι Z H e w := by
  obtain ⟨v, vs', rfl, h1, h2⟩ := h
  obtain ⟨w, rfl, h3⟩ := Rps.one h2
  exact ⟨v, w, rfl, h1, h3⟩
theorem cb_len : CallR X (.builtin "len") (rb X.K X.mg T .len) := by
  intro pins s σ H xs us Q I r h
  obtain ⟨ι, Z, μ, ds, o, g, hd, ho, q⟩ := h
  obtain ⟨a, rfl⟩ := do1 rfl ho
  obtain ⟨v, rfl, hv⟩ := hd.one
  simp only [Bi.do, Option.map_eq_some_iff] at ho
  obtain ⟨n, ho, rfl⟩ := ho
  have hq := q ι (.int n) H Ext.refl g rfl
  unfold lenD at ho
  split at ho
  · cases ho
    obtain ⟨a, vs, rfl, h1, h2⟩ := hv
    rw [h2.length] at hq
    exact call_len pins s σ H _ us Q I r ⟨_, _, rfl, .inr ⟨_, h1.sq, rfl⟩, hq⟩
  · cases ho
    obtain ⟨a, vs, rfl, ⟨h1, _⟩, h2⟩ := hv
    rw [h2.length] at hq
    exact call_len pins s σ H _ us Q I r ⟨_, _, rfl, .inl ⟨_, SqL.of h1, rfl⟩, hq⟩
  · cases ho
    obtain ⟨a, rfl, h1⟩ := hv
    rename_i ns
    rw [← List.length_map (as := ns) V.int] at hq
    exact call_len pins s σ H _ us Q I r ⟨_, _, rfl, .inl ⟨_, h1.sq, rfl⟩, hq⟩
  · split at ho <;> cases ho
    rename_i hz
    have hv' : v = V.str _ := hv
    subst hv'
    exact call_len pins s σ H _ us Q I r ⟨_, _, rfl, ⟨hz, rfl⟩, hq⟩
  · obtain ⟨a, rfl, h1⟩ := hv
    split at ho
    · cases ho
      rename_i e
      obtain ⟨b, h2, vs, h3, h4⟩ := g.mem _ _ e
      rw [h1] at h2; cases h2
      rw [h4.length] at hq
      exact call_len pins s σ H _ us Q I r ⟨_, _, rfl, .inl ⟨_, SqL.of h3, rfl⟩, hq⟩
    · cases ho
      rename_i kvs e
      obtain ⟨b, h2, vs, h3, h4⟩ := g.mem _ _ e
      rw [h1] at h2; cases h2
      have hl : ((kvs.map fun p => (Sum.inr p.1 : Key)).zip vs).length = kvs.length := by
        have := h4.length
        simp at this ⊢; omega
      obtain ⟨w, rfl, rw'⟩ := vals1 r
      cases rw'
      refine d_len I (.inl h3) fun t s' I' => ⟨.int kvs.length, H, I', ⟨t, ?_⟩, hq⟩
      rw [hl]
    · cases ho
  · cases ho
theorem cb_abs : CallR X (.builtin "abs") (rb X.K X.mg T .abs) := by
  intro pins s σ H xs us Q I r h
  obtain ⟨ι, Z, μ, ds, o, g, hd, ho, q⟩ := h
  obtain ⟨a, rfl⟩ := do1 rfl ho
  obtain ⟨v, rfl, hv⟩ := hd.one
  simp only [Bi.do] at ho
  split at ho <;> cases ho
  have hv' : v = V.int _ := hv
  subst hv'
  exact call_abs pins s σ H _ us Q I r ⟨_, rfl, q ι _ H Ext.refl g rfl⟩
theorem cb_int : CallR X (.type "int") (rb X.K X.mg T .int) := by
  intro pins s σ H xs us Q I r h
  obtain ⟨ι, Z, μ, ds, o, g, hd, ho, q⟩ := h
  obtain ⟨a, rfl⟩ := do1 rfl ho
  obtain ⟨v, rfl, hv⟩ := hd.one
  simp only [Bi.do] at ho
  split at ho
  · cases ho
    have hv' : v = V.int _ := hv
    subst hv'
    exact call_int1 pins s σ H _ us Q I r (.inl ⟨_, rfl, q ι _ H Ext.refl g rfl⟩)
  · cases ho
    have hv' : v = V.bl _ := hv
    subst hv'
    exact call_int1 pins s σ H _ us Q I r (.inr ⟨_, rfl, q ι _ H Ext.refl g rfl⟩)
  · split at ho
    · simp only [Option.map_eq_some_iff] at ho
      obtain ⟨n, hn, rfl⟩ := ho
      have hv' : v = V.str _ := hv
      subst hv'
      exact call_int_str pins s σ H _ us Q I r ⟨_, n, rfl, hn, by assumption, q ι _ H Ext.refl g rfl⟩
    · cases ho
  · cases ho
theorem cb_bool : CallR X (.type "bool") (rb X.K X.mg T .bool) := by
  intro pins s σ H xs us Q I r h
  obtain ⟨ι, Z, μ, ds, o, g, hd, ho, q⟩ := h
  obtain ⟨a, rfl⟩ := do1 rfl ho
  obtain ⟨v, rfl, hv⟩ := hd.one
  simp only [Bi.do] at ho
  split at ho <;> cases ho
  have hv' : v = V.bl _ := hv
  subst hv'
  exact call_bool1 pins s σ H _ us Q I r (.inr ⟨_, rfl, q ι _ H Ext.refl g rfl⟩)
theorem cb_str : CallR X (.type "str") (rb X.K X.mg T .str) := by
  intro pins s σ H xs us Q I r h
  obtain ⟨ι, Z, μ, ds, o, g, hd, ho, q⟩ := h
  obtain ⟨a, rfl⟩ := do1 rfl ho
  obtain ⟨v, rfl, hv⟩ := hd.one
  simp only [Bi.do] at ho
  split at ho
  · split at ho <;> cases ho
    have hv' : v = V.int _ := hv
    subst hv'
    exact call_str_int pins s σ H _ us Q I r ⟨_, rfl, by assumption, q ι _ H Ext.refl g rfl⟩
  · cases ho
    have hv' : v = V.str _ := hv
    subst hv'
    exact SkE.call_str_str pins s σ H _ us Q I r ⟨_, rfl, q ι _ H Ext.refl g rfl⟩
  · cases ho
    have hv' : v = V.bl _ := hv
    subst hv'
    obtain ⟨u, rfl, hu⟩ := vals1 r
    cases hu
    exact PySem.P.str_of_bool ⟨.str _, H, I.tok _, ⟨_, rfl⟩, by simpa using q ι _ H Ext.refl g rfl⟩
  · cases ho
theorem cb_sum (hc : X.calm = true) : CallR X (.builtin "sum") (rb X.K X.mg T .sum) := by
  intro pins s σ H xs us Q I r h
  obtain ⟨ι, Z, μ, ds, o, g, hd, ho, q⟩ := h
  obtain ⟨a, rfl⟩ := do1 rfl ho
  obtain ⟨v, rfl, hv⟩ := hd.one
  simp only [Bi.do] at ho
  split at ho
  · rename_i xs e
    obtain ⟨a, vs, rfl, h1, h2⟩ := see_lst g e hv
    simp only [Option.map_eq_some_iff] at ho
    obtain ⟨ns, e1, rfl⟩ := ho
    have := intsOf_eq e1
    subst this
    have := h2.ints_inv
    subst this
    exact cr_sum hc pins s σ H _ us Q I r ⟨a, ns, rfl, SqL.of h1, q ι _ H Ext.refl g rfl⟩
  · cases ho
theorem Rps.strs {K : PySem.W.Frag} {mg : Str → Option Value} {ι Z : List Addr} {H : Hp} : ∀ (ys : List Str), Rps K mg ι Z H (ys.map .str) (ys.map V.str)
  | [] => rfl
  | y :: ys => ⟨_, _, rfl, rfl, Rps.strs ys⟩
theorem vals_at : ∀ {xs : List V} {us : List Value}, us.length = xs.length → (∀ (j : Nat) (u : Value), us[j]? = some u → ∃ x, xs[j]? = some x ∧ RelV x u) → Vals xs us
  | [], [], _, _ => .nil
  | x :: xs, u :: us, h, g => by
    obtain ⟨y, e, r⟩ := g 0 u rfl
    cases e
    exact .cons r (vals_at (by simpa using h) fun j v hv => g (j + 1) v hv)
  | [], _ :: _, h, _ => by simp at h
  | _ :: _, [], h, _ => by simp at h
theorem signs_vals {x : Str} {acc : Array Value} (h : ItemsOf (SignAt x) acc x.cps.size) : Vals ((x.cps.toList.map fun c => (⟨#[c]⟩ : Str)).map V.str) acc.toList := by
  refine vals_at (by simp [h.1]) fun j u hu => ?_
  obtain ⟨c, t, hc, rfl⟩ := h.2 j u (by simpa using hu)
  refine ⟨.str ⟨#[c]⟩, ?_, ⟨t, rfl⟩⟩
  have hc' : x.cps.toList[j]? = some c := by simpa using hc
  simp [hc']
theorem cb_list (hc : X.calm = true) : CallR X (.type "list") (rb X.K X.mg T .list) := by
  intro pins s σ H xs us Q I r h
  obtain ⟨ι, Z, μ, ds, o, g, hd, ho, q⟩ := h
  obtain ⟨a, rfl⟩ := do1 rfl ho
  obtain ⟨v, rfl, hv⟩ := hd.one
  simp only [Bi.do] at ho
  split at ho
  · rename_i xs e
    obtain ⟨a, vs, rfl, h1, h2⟩ := see_lst g e hv
    cases ho
    exact call_list_of pins s σ H _ us Q I r ⟨a, vs, rfl, .inl (SqL.of h1), fun l hl => q ι _ _ (ext_fresh hl) (g.fresh hl) (Rp.newL g hl h2)⟩
  · rename_i xs e
    obtain ⟨a, vs, rfl, h1, h2⟩ := see_seq g e hv
    cases ho
    exact call_list_of pins s σ H _ us Q I r ⟨a, vs, rfl, .inr h1.sq, fun l hl => q ι _ _ (ext_fresh hl) (g.fresh hl) (Rp.newL g hl h2)⟩
  · rename_i x e
    have e := see_of e (fun _ z => by cases z)
    subst e
    split at ho <;> cases ho
    rename_i hz
    have hv' : v = V.str x := hv
    subst hv'
    obtain ⟨u, rfl, rx⟩ := vals1 r
    obtain ⟨t, rfl⟩ := rx
    refine call_list_str (I.ok.hd hc) x t (fun h' tk acc' c' kp e hacc => ?_) (by show x.cps.size ≤ sizeLine; have : x.cps.size ≤ 1000 := hz; rw [sizeLine_eq]; omega)
    have hva : Vals ((x.cps.toList.map fun c => (⟨#[c]⟩ : Str)).map V.str) acc'.toList := signs_vals hacc
    have hl : (x.cps.toList.map fun c => (⟨#[c]⟩ : Str)).length = x.cps.size := by simp
    refine ⟨.ref s.heap.objs.size, upd H s.heap.objs.size (.lst ((x.cps.toList.map fun c => (⟨#[c]⟩ : Str)).map V.str)), I.laid (t' := tk) kp (Nat.le_refl _) ⟨by rw [List.length_map, hl]; have : x.cps.size ≤ 1000 := hz; rw [sizeLine_eq]; omega, acc'.toList, c', hva, by simpa using e⟩, rfl, ?_⟩
    have hn := I.hok.fresh (Nat.le_refl s.heap.objs.size)
    refine q ι _ _ (ext_fresh hn) (g.fresh hn) (Rp.newL g hn ?_)
    have := Rps.strs (K := X.K) (mg := X.mg) (ι := ι) (Z := Z) (H := H) (x.cps.toList.map fun c => (⟨#[c]⟩ : Str))
    rw [List.map_map] at this
    exact this
  · cases ho
theorem cb_tuple : CallR X (.type "tuple") (rb X.K X.mg T .tuple) := by
  intro pins s σ H xs us Q I r h
  obtain ⟨ι, Z, μ, ds, o, g, hd, ho, q⟩ := h
  obtain ⟨a, rfl⟩ := do1 rfl ho
  obtain ⟨v, rfl, hv⟩ := hd.one
  simp only [Bi.do] at ho
  split at ho
  · rename_i xs e
    obtain ⟨a, vs, rfl, h1, h2⟩ := see_lst g e hv
    cases ho
    exact call_tuple_of pins s σ H _ us Q I r ⟨a, vs, rfl, .inl ⟨SqL.of h1, fun l hl => q ι _ _ (ext_fresh hl) (g.fresh hl) (Rp.newT hl h2)⟩⟩
  · rename_i xs e
    obtain ⟨a, vs, rfl, h1, h2⟩ := see_seq g e hv
    cases ho
    exact call_tuple_of pins s σ H _ us Q I r ⟨a, vs, rfl, .inr ⟨h1.sq, q ι _ _ Ext.refl g ⟨a, vs, rfl, h1, h2⟩⟩⟩
  · cases ho
theorem cb_min (hc : X.calm = true) : CallR X (.builtin "min") (rb X.K X.mg T .min) := by
  intro pins s σ H xs us Q I r h
  obtain ⟨ι, Z, μ, ds, o, g, hd, ho, q⟩ := h
  obtain ⟨a, b, rfl⟩ := do2 rfl ho
  obtain ⟨v, w, rfl, hv, hw⟩ := hd.two
  simp only [Bi.do] at ho
  split at ho <;> cases ho
  have hv' : v = V.int _ := hv
  have hw' : w = V.int _ := hw
  subst hv' hw'
  exact call_min2 hc pins s σ H _ us Q I r ⟨_, _, rfl, q ι _ H Ext.refl g rfl⟩
theorem cb_max (hc : X.calm = true) : CallR X (.builtin "max") (rb X.K X.mg T .max) := by
  intro pins s σ H xs us Q I r h
  obtain ⟨ι, Z, μ, ds, o, g, hd, ho, q⟩ := h
  obtain ⟨a, b, rfl⟩ := do2 rfl ho
  obtain ⟨v, w, rfl, hv, hw⟩ := hd.two
  simp only [Bi.do] at ho
  split at ho <;> cases ho
  have hv' : v = V.int _ := hv
  have hw' : w = V.int _ := hw
  subst hv' hw'
  exact call_max2 hc pins s σ H _ us Q I r ⟨_, _, rfl, q ι _ H Ext.refl g rfl⟩
theorem ty_of {ι Z : List Addr} {H : Hp} {μ : List Mo} {d : D} {v : V} {t : String} (g : RG X.K X.mg T ι Z H μ) (h : Rp X.K X.mg ι Z H d v) (e : tyD μ d = some t) : TyX X.K H v (.type t) := by
  unfold tyD at e
  split at e
  · cases e; rw [show v = V.non from h]; exact .base .non
  · cases e; rw [show v = V.bl _ from h]; exact .base (.bl _)
  · cases e; rw [show v = V.int _ from h]; exact .base (.int _)
  · cases e; rw [show v = V.str _ from h]; exact .base (.str _)
  · cases e
    obtain ⟨a, vs, rfl, h1, h2⟩ := h
    rcases h1 with h1 | ⟨o, its, n, h1, h3, _⟩
    · exact .base (.tup h1)
    · exact .kTuple h1 h3
  · cases e
    obtain ⟨a, vs, rfl, ⟨h1, _⟩, h2⟩ := h
    exact .base (.lst h1)
  · obtain ⟨a, rfl, h1⟩ := h
    split at e
    · cases e
      rename_i q
      obtain ⟨b, h2, vs, h3, h4⟩ := g.mem _ _ q
      rw [h1] at h2; cases h2
      exact .base (.lst h3)
    · cases e
      rename_i q
      obtain ⟨b, h2, vs, h3, h4⟩ := g.mem _ _ q
      rw [h1] at h2; cases h2
      exact .base (.dK h3)
    · cases e
  · cases e
theorem cb_isi : CallR X (.builtin "isinstance") (rb X.K X.mg T .isi) := by
  intro pins s σ H xs us Q I r h
  obtain ⟨ι, Z, μ, ds, o, g, hd, ho, q⟩ := h
  obtain ⟨a, b, rfl⟩ := do2 rfl ho
  obtain ⟨v, w, rfl, hv, hw⟩ := hd.two
  simp only [Bi.do, Option.map_eq_some_iff, isiD] at ho
  obtain ⟨b, ho, rfl⟩ := ho
  split at ho
  · simp only [Option.bind_eq_some_iff] at ho
    obtain ⟨t, e1, e2⟩ := ho
    have hw' : w = V.ty _ := hw
    subst hw'
    exact call_isi pins s σ H _ us Q I r ⟨_, _, _, _, _, rfl, .ty _, ty_of g hv e1, kit_ty e2, q ι _ H Ext.refl g rfl⟩
  · cases ho
/-! ### methods of texts -/
theorem Rps.strs_inv {K : PySem.W.Frag} {mg : Str → Option Value} {ι Z : List Addr} {H : Hp} : ∀ {ds : List D} {ys : List Str} {vs : List V}, strsOf ds = some ys → Rps K mg ι Z H ds vs → vs = ys.map V.str
  | [], ys, vs, e, h => by
    simp only [strsOf, Option.some.injEq] at e
    subst e
    exact h
  | .str x :: ds, ys, vs, e, h => by
    simp only [strsOf, Option.map_eq_some_iff] at e
    obtain ⟨zs, e1, rfl⟩ := e
    obtain ⟨v, vs', rfl, h1, h2⟩ := h
    rw [Rps.strs_inv e1 h2, show v = V.str x from h1]; rfl
  | .non :: _, _, _, e, _ => by cases e
  | .bl _ :: _, _, _, e, _ => by cases e
  | .int _ :: _, _, _, e, _ => by cases e
  | .ty _ :: _, _, _, e, _ => by cases e
  | .glo _ :: _, _, _, e, _ => by cases e
  | .tup _ :: _, _, _, e, _ => by cases e
  | .lst _ :: _, _, _, e, _ => by cases e
  | .obj _ :: _, _, _, e, _ => by cases e
  | .scr _ :: _, _, _, e, _ => by cases e
def rM (K : PySem.W.Frag) (mg : Str → Option Value) (T : TW) (f : Bi) : V → List V → Hp → VK → Prop := fun x xs H Q => rb K mg T f (x :: xs) H Q
theorem mb_upper : MtR X "str.upper" (rM X.K X.mg T .upper) := by
  intro pins s σ H x xs v us Q I rx rs h
  obtain ⟨ι, Z, μ, ds, o, g, hd, ho, q⟩ := h
  obtain ⟨a, rfl⟩ := do1 rfl ho
  obtain ⟨v1, e1, hv⟩ := hd.one
  cases e1
  simp only [Bi.do] at ho
  split at ho
  · split at ho
    · cases ho
      have hv' : x = V.str _ := hv
      subst hv'
      exact mt_upper pins s σ H _ _ v us Q I rx rs ⟨_, rfl, rfl, by assumption, q ι _ H Ext.refl g rfl⟩
    · cases ho
  · cases ho
theorem mb_split : MtR X "str.split" (rM X.K X.mg T .split) := by
  intro pins s σ H x xs v us Q I rx rs h
  obtain ⟨ι, Z, μ, ds, o, g, hd, ho, q⟩ := h
  obtain ⟨a, b, rfl⟩ := do2 rfl ho
  obtain ⟨v1, w1, e1, hv, hw⟩ := hd.two
  cases e1
  simp only [Bi.do] at ho
  split at ho
  · rename_i x1 y1
    split at ho
    · rename_i hz
      cases ho
      simp only [Bool.and_eq_true, Bool.not_eq_true', decide_eq_true_eq] at hz
      have hv' : x = V.str _ := hv
      have hw' : w1 = V.str _ := hw
      subst hv' hw'
      exact mt_split pins s σ H _ _ v us Q I rx rs ⟨_, _, rfl, rfl, hz.1, hz.2, fun p hp => q ι _ _ (ext_fresh hp) (g.fresh hp) (Rp.newL g hp (Rps.strs _))⟩
    · cases ho
  · cases ho
theorem mb_join : MtR X "str.join" (rM X.K X.mg T .join) := by
  intro pins s σ H x xs v us Q I rx rs h
  obtain ⟨ι, Z, μ, ds, o, g, hd, ho, q⟩ := h
  obtain ⟨a, b, rfl⟩ := do2 rfl ho
  obtain ⟨v1, w1, e1, hv, hw⟩ := hd.two
  cases e1
  simp only [Bi.do] at ho
  split at ho
  · rename_i x1 ds1 e2
    simp only [Option.bind_eq_some_iff] at ho
    obtain ⟨ys, e3, ho⟩ := ho
    split at ho
    · rename_i hz
      cases ho
      have hv' : x = V.str _ := hv
      subst hv'
      obtain ⟨p, vs, rfl, h1, h2⟩ := see_lst g e2 hw
      have := Rps.strs_inv e3 h2
      subst this
      exact mt_join pins s σ H _ _ v us Q I rx rs ⟨_, _, ys, rfl, rfl, .inl (SqL.of h1), hz, q ι _ H Ext.refl g rfl⟩
    · cases ho
  · rename_i x1 ds1 e2
    simp only [Option.bind_eq_some_iff] at ho
    obtain ⟨ys, e3, ho⟩ := ho
    split at ho
    · rename_i hz
      cases ho
      have hv' : x = V.str _ := hv
      subst hv'
      obtain ⟨p, vs, rfl, h1, h2⟩ := see_seq g e2 hw
      have := Rps.strs_inv e3 h2
      subst this
      exact mt_join pins s σ H _ _ v us Q I rx rs ⟨_, _, ys, rfl, rfl, .inr h1.sq, hz, q ι _ H Ext.refl g rfl⟩
    · cases ho
  · cases ho
/-! ### items, slices -/
def rix (K : PySem.W.Frag) (mg : Str → Option Value) (T : TW) : R2 := fun x y H Q => ∃ ι Z μ d e r, RG K mg T ι Z H μ ∧ Rp K mg ι Z H d x ∧ Rp K mg ι Z H e y ∧ ixD μ d e = some r ∧
  ∀ ι' v H', Ext ι [] H ι' H' → RG K mg T ι' Z H' μ → Rp K mg ι' Z H' r v → Q v H'
theorem Rps.atI {K : PySem.W.Frag} {mg : Str → Option Value} {ι Z : List Addr} {H : Hp} {ds : List D} {vs : List V} {i : Int} {d : D} (h : Rps K mg ι Z H ds vs) (e : L2.atI ds i = some d) : ∃ v, L2.atI vs i = some v ∧ Rp K mg ι Z H d v := by
  unfold L2.atI at e ⊢
  rw [Option.bind_eq_some_iff] at e
  obtain ⟨j, e1, e2⟩ := e
  obtain ⟨v, e3, e4⟩ := h.get e2
  exact ⟨v, by rw [← h.length, e1]; exact e3, e4⟩
abbrev kS (p : Str × D) : Key := Sum.inr p.1
theorem dct_get {K : PySem.W.Frag} {mg : Str → Option Value} {ι Z : List Addr} {H : Hp} : ∀ {kvs : List (Str × D)} {vs : List V} {z : Str} {r : D}, Rps K mg ι Z H (kvs.map (·.2)) vs → kvs.lookup z = some r → ∃ v, L2.valV ((kvs.map kS).zip vs) (Sum.inr z : Key) = some v ∧ Rp K mg ι Z H r v
  | [], _, _, _, _, e => by cases e
  | (k, d) :: kvs, _, z, r, h, e => by
    obtain ⟨v, vs', rfl, h1, h2⟩ := h
    have e : (match z == k with | true => some d | false => kvs.lookup z) = some r := e
    cases q : (z == k) with
    | true =>
      rw [q] at e
      cases e
      have := beq_iff_eq.mp q
      subst this
      exact ⟨v, L2.valV_pos rfl, h1⟩
    | false =>
      rw [q] at e
      obtain ⟨w, h3, h4⟩ := dct_get h2 e
      refine ⟨w, ?_, h4⟩
      have nk : ¬ ((Sum.inr k : Key) = Sum.inr z) := fun y => by cases y; simp at q
      unfold L2.valV at h3 ⊢
      rw [List.map_cons, List.zip_cons_cons, List.find?_cons_of_neg (by simpa using nk)]
      exact h3
theorem ix_ok (hw : T.w = X.w) (hu : X.A.units + 9 < cLine) : IxR X (rix X.K X.mg T) := by
  intro value slice pins s σ H x y v u Q I rx ry h hs
  obtain ⟨ι, Z, μ, d, e, r, g, hd, he, ho, q⟩ := h
  unfold ixD at ho
  split at ho
  · rename_i xs j e1
    obtain ⟨a, vs, rfl, h1, h2⟩ := see_seq g e1 hd
    obtain ⟨w, h3, h4⟩ := h2.atI ho
    exact ix_tup value slice pins s σ H _ _ v u Q I rx ry ⟨a, vs, j, w, rfl, he, h1.sq, h3, q ι _ H Ext.refl g h4⟩ hs
  · rename_i xs j e1
    obtain ⟨a, vs, rfl, h1, h2⟩ := see_lst g e1 hd
    obtain ⟨w, h3, h4⟩ := h2.atI ho
    exact ix_list value slice pins s σ H _ _ v u Q I rx ry ⟨a, vs, j, w, rfl, he, SqL.of h1, h3, q ι _ H Ext.refl g h4⟩ hs
  · rename_i ns j e1
    have e1 := see_of e1 (fun _ z => by cases z)
    subst e1
    obtain ⟨a, rfl, h1⟩ := hd
    simp only [Option.map_eq_some_iff] at ho
    obtain ⟨n, e2, rfl⟩ := ho
    refine ix_list value slice pins s σ H _ _ v u Q I rx ry ⟨a, _, j, .int n, rfl, he, h1.sq, ?_, q ι _ H Ext.refl g rfl⟩ hs
    unfold L2.atI at e2 ⊢
    rw [Option.bind_eq_some_iff] at e2
    obtain ⟨k, e3, e4⟩ := e2
    rw [List.length_map, e3]
    simp [e4]
  · rename_i z j e1
    have e1 := see_of e1 (fun _ z => by cases z)
    subst e1
    split at ho
    · rename_i hz
      simp only [Option.map_eq_some_iff] at ho
      obtain ⟨c, e2, rfl⟩ := ho
      exact ix_str value slice pins s σ H _ _ v u Q I rx ry ⟨z, j, c, hd, he, hz, e2, q ι _ H Ext.refl g rfl⟩ hs
    · cases ho
  · rename_i n z e1
    have e1 := see_of e1 (fun _ z => by cases z)
    subst e1
    split at ho
    · rename_i kvs hm
      obtain ⟨a, rfl, ha⟩ := hd
      obtain ⟨b, hb, vs, hv, rv⟩ := g.mem n _ hm
      rw [ha] at hb
      cases hb
      obtain ⟨w, h3, h4⟩ := dct_get rv ho
      have he' : y = V.str z := he
      subst he'
      obtain rfl : v = Value.ref a := rx
      have gg : L2.DGet H a (.str z) (some w) := by
        have := L2.DGet.k (k := (Sum.inr z : Key)) hv
        rw [h3] at this
        exact this
      exact tail_any (dict_typeIs I gg) PySem.F.slot_dict_getitem.lookup (d_getItem (by omega) I gg ry fun w' s' I' rw' => ⟨w, H, I', rw', q ι _ H Ext.refl g h4⟩) hs
    · cases ho
  · rename_i n ds e1
    have e1 := see_of e1 (fun _ z => by cases z)
    subst e1
    split at ho
    · rename_i kvs hm
      simp only [Option.bind_eq_some_iff] at ho
      obtain ⟨k, hk, hl⟩ := ho
      obtain ⟨a, rfl, ha⟩ := hd
      obtain rfl : v = Value.ref a := rx
      refine tail_any ?_ PySem.F.slot_dict_getitem.lookup (nd_getItem hw hu I g hm ha hk he ry hl fun y u' s' I' rv' rp => ⟨y, H, I', rv', q ι _ H Ext.refl g rp⟩) hs
      obtain ⟨xs, h1, h2, h3, h4, h5⟩ := nd_mem hw g hm ha
      obtain ⟨ys, r1, dd⟩ := nd_dict I h1 h3 h4
      exact dd.typeIs
    · cases ho
  · cases ho
def rsl (K : PySem.W.Frag) (mg : Str → Option Value) (T : TW) : V → Option Int → Option Int → Hp → VK → Prop := fun x lo hi H Q => ∃ ι Z μ d r, RG K mg T ι Z H μ ∧ Rp K mg ι Z H d x ∧ slD μ d lo hi = some r ∧
  ∀ ι' v H', Ext ι [] H ι' H' → RG K mg T ι' Z H' μ → Rp K mg ι' Z H' r v → Q v H'
theorem Rps.cut {K : PySem.W.Frag} {mg : Str → Option Value} {ι Z : List Addr} {H : Hp} {ds : List D} {vs : List V} (h : Rps K mg ι Z H ds vs) (lo hi : Option Int) : Rps K mg ι Z H (cutL ds lo hi) (cutV vs lo hi) := by
  unfold cutL cutV
  rw [h.length]
  exact (h.drop _).take _
theorem sl_ok : SlR X (rsl X.K X.mg T) := by
  intro pins s σ H x v vl vu lo hi sl Q I rx hs pl pu h
  obtain ⟨ι, Z, μ, d, r, g, hd, ho, q⟩ := h
  unfold slD at ho
  split at ho
  · rename_i xs e1
    obtain ⟨a, vs, rfl, h1, h2⟩ := see_seq g e1 hd
    cases ho
    refine sl_tupA pins s σ H _ v vl vu lo hi sl Q I rx hs pl pu ⟨a, vs, rfl, h1.sq, fun hw => ?_, fun _ p hp => q ι _ _ (ext_fresh hp) (g.fresh hp) (Rp.newT hp (h2.cut lo hi))⟩
    refine q ι _ H Ext.refl g ⟨a, vs, rfl, h1, ?_⟩
    have : cutL xs lo hi = xs := by
      unfold cutL
      rw [h2.length, hw.1, hw.2]
      simp [← h2.length]
    rw [this]; exact h2
  · rename_i xs e1
    obtain ⟨a, vs, rfl, h1, h2⟩ := see_lst g e1 hd
    cases ho
    exact sl_list pins s σ H _ v vl vu lo hi sl Q I rx hs pl pu ⟨a, vs, rfl, SqL.of h1, fun p hp => q ι _ _ (ext_fresh hp) (g.fresh hp) (Rp.newL g hp (h2.cut lo hi))⟩
  · rename_i z e1
    have e1 := see_of e1 (fun _ z => by cases z)
    subst e1
    split at ho <;> cases ho
    rename_i hz
    exact sl_str pins s σ H _ v vl vu lo hi sl Q I rx hs pl pu ⟨z, hd, hz, q ι _ H Ext.refl g rfl⟩
  · cases ho
end
end Mi
set_option Elab.async false
set_option linter.all false
set_option maxRecDepth 100000
set_option maxHeartbeats 4000000
/-! Mr: readings by the small language; how its terms are read off the text. -/
namespace Mi
open PySem PySem.Spec PyProof.Rows L2
/-! ### the slots -/
def SlOk (K : PySem.W.Frag) (mg : Str → Option Value) (ι Z Zf : List Addr) (H : Hp) : Sl → Option (Option V) → Prop
  | .un, _ => True
  | .d x, s => ∃ v, s = some (some v) ∧ Rp K mg ι Z H x v
  | .lin xs, s => ∃ a vs, s = some (some (.ref a)) ∧ a ∈ Zf ∧ H a = some (.lst vs) ∧ Rps K mg ι Z H xs vs
structure SR (K : PySem.W.Frag) (mg : Str → Option Value) (ι Z Zf : List Addr) (H : Hp) (δ : List Sl) (σ : L2.St) : Prop where
  len : δ.length = σ.length
  ok : ∀ (i : Nat) (s : Sl), δ[i]? = some s → SlOk K mg ι Z Zf H s σ[i]?
  apart : ∀ (i j : Nat) (xs ys : List D) (a : Addr), δ[i]? = some (.lin xs) → δ[j]? = some (.lin ys) → σ[i]? = some (some (V.ref a)) → σ[j]? = some (some (V.ref a)) → i = j
  sub : ∀ z ∈ Zf, z ∈ Z
section
variable {K : PySem.W.Frag} {mg : Str → Option Value} {T : TW} {ι Z Zf ι' Z' : List Addr} {H H' : Hp} {μ μ' : List Mo} {δ : List Sl} {σ : L2.St}
/-- behind an expression: what the slots hold stands -/
theorem SR.ext (g : RG K mg T ι Z H μ) (s : SR K mg ι Z Zf H δ σ) (e : Ext ι [] H ι' H') : SR K mg ι' Z Zf H' δ σ := by
  refine ⟨s.len, fun i x hx => ?_, s.apart, s.sub⟩
  have h := s.ok i x hx
  cases x with
  | un => trivial
  | d x => obtain ⟨v, h1, h2⟩ := h; exact ⟨v, h1, h2.ext0 e⟩
  | lin xs =>
    obtain ⟨a, vs, h1, h2, h3, h4⟩ := h
    refine ⟨a, vs, h1, h2, e.keep a _ h3 (g.zl a (s.sub a h2)).2 (by simp) (fun _ z => by cases z), h4.ext0 e⟩
theorem SR.get (s : SR K mg ι Z Zf H δ σ) {i : Nat} {x : D} (h : δ[i]? = some (.d x)) : ∃ v, σ[i]? = some (some v) ∧ Rp K mg ι Z H x v := s.ok i _ h
theorem SR.set (s : SR K mg ι Z Zf H δ σ) {i : Nat} {x : D} {v : V} (h : Rp K mg ι Z H x v) : SR K mg ι Z Zf H (δ.set i (.d x)) (σ.set i (some v)) := by
  refine ⟨by simp [s.len], fun j y hy => ?_, fun j k xs ys a h1 h2 h3 h4 => ?_, s.sub⟩
  · by_cases e : i = j
    · subst e
      have hl : i < δ.length := by
        have := (List.getElem?_eq_some_iff.mp hy).1
        simpa using this
      rw [List.getElem?_set_self hl] at hy
      cases hy
      exact ⟨v, by rw [List.getElem?_set_self (by rw [← s.len]; exact hl)], h⟩
    · rw [List.getElem?_set_ne e] at hy ⊢
      exact s.ok j y hy
  · have hj : i ≠ j := fun e => by
      subst e
      have hl : i < δ.length := by
        have := (List.getElem?_eq_some_iff.mp h1).1
        simpa using this
      rw [List.getElem?_set_self hl] at h1
      cases h1
    have hk : i ≠ k := fun e => by
      subst e
      have hl : i < δ.length := by
        have := (List.getElem?_eq_some_iff.mp h2).1
        simpa using this
      rw [List.getElem?_set_self hl] at h2
      cases h2
    rw [List.getElem?_set_ne hj] at h1 h3
    rw [List.getElem?_set_ne hk] at h2 h4
    exact s.apart j k xs ys a h1 h2 h3 h4
theorem SR.wipe1 (s : SR K mg ι Z Zf H δ σ) (i : Nat) : SR K mg ι Z Zf H (δ.set i .un) (σ.set i none) := by
  refine ⟨by simp [s.len], fun j y hy => ?_, fun j k xs ys a h1 h2 h3 h4 => ?_, s.sub⟩
  · by_cases e : i = j
    · subst e
      have hl : i < δ.length := by
        have := (List.getElem?_eq_some_iff.mp hy).1
        simpa using this
      rw [List.getElem?_set_self hl] at hy
      cases hy
      trivial
    · rw [List.getElem?_set_ne e] at hy ⊢
      exact s.ok j y hy
  · have hj : i ≠ j := fun e => by
      subst e
      have hl : i < δ.length := by
        have := (List.getElem?_eq_some_iff.mp h1).1
        simpa using this
      rw [List.getElem?_set_self hl] at h1
      cases h1
    have hk : i ≠ k := fun e => by
      subst e
      have hl : i < δ.length := by
        have := (List.getElem?_eq_some_iff.mp h2).1
        simpa using this
      rw [List.getElem?_set_self hl] at h2
      cases h2
    rw [List.getElem?_set_ne hj] at h1 h3
    rw [List.getElem?_set_ne hk] at h2 h4
    exact s.apart j k xs ys a h1 h2 h3 h4
theorem SR.wipe (s : SR K mg ι Z Zf H δ σ) : ∀ vs : List Nat, SR K mg ι Z Zf H (wipeS δ vs) (wipe σ vs)
  | [] => s
  | v :: vs => (SR.wipe s vs).wipe1 v
end
/-! ### what comes of a term -/
/-- the attribute of an exception with one of its own -/
def xattr (c : Str) : Str := if c = "TooMany" then "limit" else "line"
/-- an exception as it flies: its class, its own dict -/
def XR (mg : Str → Option Value) : Ex → Value → Option Addr → Hp → Prop := fun e cv dx H => match e with
  | (c, none) => (∃ C, mg c = some (.ref C) ∧ cv = .ref C) ∧ dx = none
  | (c, some (.int i)) => (∃ C, mg c = some (.ref C) ∧ cv = .ref C) ∧ ∃ dd, dx = some dd ∧ H dd = some (.xd [(xattr c, .int i)])
  | _ => False
def post {α β : Type} (K : PySem.W.Frag) (mg : Str → Option Value) (T : TW) (rel : List Addr → List Addr → Hp → α → β → Prop) (ι Z : List Addr) (H : Hp) (r : RM α) (Q : β → Hp → Prop) (W : Value → Option Addr → Hp → Prop) : Prop :=
  match r with
  | none => False
  | some (.ok a, μ) => ∀ ι' b H', Ext ι [] H ι' H' → RG K mg T ι' Z H' μ → rel ι' Z H' a b → Q b H'
  | some (.error e, μ) => ∀ ι' H' cv dx, Ext ι [] H ι' H' → RG K mg T ι' Z H' μ → XR mg e cv dx H' → W cv dx H'
section
variable {α β γ κ : Type} {K : PySem.W.Frag} {mg : Str → Option Value} {T : TW} {rel : List Addr → List Addr → Hp → α → β → Prop} {rel' : List Addr → List Addr → Hp → γ → κ → Prop} {ι Z ι1 : List Addr} {H H1 : Hp} {Q : β → Hp → Prop} {Q' : κ → Hp → Prop} {W : Value → Option Addr → Hp → Prop}
theorem post.mono {r : RM α} (h : post K mg T rel ι Z H r Q W) (e : Ext ι [] H ι1 H1) : post K mg T rel ι1 Z H1 r Q W := by
  match r, h with
  | some (.ok a, μ), h => exact fun ι' b H' e' => h ι' b H' (e.trans0 e')
  | some (.error x, μ), h => exact fun ι' H' cv dx e' => h ι' H' cv dx (e.trans0 e')
theorem post.bind {x : RM α} {f : α → List Mo → RM γ} (hp : post K mg T rel' ι Z H (bindR x f) Q' W)
    (h : ∀ a μ1 ι1 b H1, Ext ι [] H ι1 H1 → RG K mg T ι1 Z H1 μ1 → rel ι1 Z H1 a b → post K mg T rel' ι1 Z H1 (f a μ1) Q' W → Q b H1) : post K mg T rel ι Z H x Q W := by
  match x, hp with
  | some (.ok a, μ), hp => exact fun ι' b H' e' g r => h a μ ι' b H' e' g r (hp.mono e')
  | some (.error x, μ), hp => exact hp
theorem post.ret {a : α} {b : β} {μ : List Mo} (hp : post K mg T rel ι Z H (retR a μ) Q W) (g : RG K mg T ι Z H μ) (r : rel ι Z H a b) : Q b H := hp ι b H Ext.refl g r
end
/-- what is wanted of an exception at these slots -/
abbrev WS (W : WX) (σ : L2.St) : Value → Option Addr → Hp → Prop := fun c d H => W c d σ H
def tR {α β : Type} (K : PySem.W.Frag) (mg : Str → Option Value) (T : TW) (W : WX) (rel : List Addr → List Addr → Hp → α → β → Prop) (r : List Sl → List Mo → RM α) : L2.St → Hp → (β → Hp → Prop) → Prop := fun σ H Q =>
  ∃ ι Z Zf μ δ, RG K mg T ι Z H μ ∧ SR K mg ι Z Zf H δ σ ∧ post K mg T rel ι Z H (r δ μ) Q (WS W σ)
abbrev tE (K : PySem.W.Frag) (mg : Str → Option Value) (T : TW) (W : WX) (c : E) : TE := tR K mg T W (Rp K mg) (ev c)
abbrev tEs (K : PySem.W.Frag) (mg : Str → Option Value) (T : TW) (W : WX) (c : Es) : TA := tR K mg T W (Rps K mg) (evs c)
/-- as a test -/
def evT (c : E) : List Sl → List Mo → RM Bool := fun δ μ => bindR (ev c δ μ) fun d μ => match d with
  | .bl b => retR b μ
  | _ => none
abbrev tT (K : PySem.W.Frag) (mg : Str → Option Value) (T : TW) (W : WX) (c : E) : TT := tR K mg T W (fun _ _ _ (d b : Bool) => d = b) (evT c)
theorem PE.imp {X : Cx} {e : Expr} {t t' : TE} (h : PE X e t) (i : ∀ σ H Q, t' σ H Q → t σ H Q) : PE X e t' := ⟨fun pins s σ H Q I q => h.run pins s σ H Q I (i σ H Q q)⟩
theorem PT.imp {X : Cx} {e : Expr} {t t' : TT} (h : PT X e t) (i : ∀ σ H Q, t' σ H Q → t σ H Q) : PT X e t' := ⟨fun pins s σ H Q I q => h.run pins s σ H Q I (i σ H Q q)⟩
theorem PW.imp {X : Cx} {e : Expr} {t t' : TT} (h : PW X e t) (i : ∀ σ H Q, t' σ H Q → t σ H Q) : PW X e t' := ⟨fun wh pins s σ H Q I q => h.run wh pins s σ H Q I (i σ H Q q)⟩
theorem PA.imp {X : Cx} {e : List Expr} {t t' : TA} (h : PA X e t) (i : ∀ σ H Q, t' σ H Q → t σ H Q) : PA X e t' := ⟨fun pos pins s σ H Q I q => h.run pos pins s σ H Q I (i σ H Q q)⟩
section
variable {X : Cx} {T : TW} {W : WX} {a b c : Expr} {ca cb cc : E} {pos : Pos}
/-- an operator -/
theorem to_op {o : Op} {σ : L2.St} {H : Hp} {Q : VK} (h : tE X.K X.mg T W (.op o ca cb) σ H Q) : tOp (r2 X.K X.mg T o) (tE X.K X.mg T W ca) (tE X.K X.mg T W cb) σ H Q := by
  obtain ⟨ι, Z, Zf, μ, δ, g, sr, hp⟩ := h
  refine ⟨ι, Z, Zf, μ, δ, g, sr, post.bind hp fun x μ1 ι1 v H1 e1 g1 r1 hp1 => ?_⟩
  refine ⟨ι1, Z, Zf, μ1, δ, g1, sr.ext g e1, post.bind hp1 fun y μ2 ι2 w H2 e2 g2 r2 hp2 => ?_⟩
  unfold optR at hp2
  cases ho : o.do μ2 x y with
  | none => rw [ho] at hp2; exact hp2.elim
  | some r =>
    rw [ho] at hp2
    exact ⟨ι2, Z, μ2, x, y, r, g2, r1.ext0 e2, r2, ho, hp2⟩
theorem m_op {op : Operator} {o : Op} (ho : OpR X (binaryOp op) (r2 X.K X.mg T o)) (ha : PE X a (tE X.K X.mg T W ca)) (hb : PE X b (tE X.K X.mg T W cb)) : PE X (.BinOp a op b pos) (tE X.K X.mg T W (.op o ca cb)) :=
  PE.imp (pe_op ho ha hb) fun _ _ _ h => to_op h
theorem m_cmp {op : CmpOp} {o : Op} (ho : OpR X (compareOp op) (r2 X.K X.mg T o)) (ha : PE X a (tE X.K X.mg T W ca)) (hb : PE X b (tE X.K X.mg T W cb)) (hm : behindInMarks op b = false) : PE X (.Compare a [op] [b] pos) (tE X.K X.mg T W (.op o ca cb)) :=
  PE.imp (pe_cmpR ho ha hb hm) fun _ _ _ h => to_op h
theorem E2T {c : E} {σ : L2.St} {H : Hp} {Q : Bool → Hp → Prop} (h : tT X.K X.mg T W c σ H Q) : tE X.K X.mg T W c σ H (fun x H1 => ∃ k, x = .bl k ∧ Q k H1) := by
  obtain ⟨ι, Z, Zf, μ, δ, g, sr, hp⟩ := h
  refine ⟨ι, Z, Zf, μ, δ, g, sr, post.bind hp fun d μ1 ι1 v H1 e1 g1 r1 hp1 => ?_⟩
  cases d with
  | bl k => exact ⟨k, r1, post.ret hp1 g1 rfl⟩
  | _ => exact hp1.elim
end
end Mi
set_option Elab.async false
set_option linter.all false
set_option maxRecDepth 100000
set_option maxHeartbeats 4000000
/-! Ms: each term of the small language over the rule of its construct. -/
namespace Mi
open PySem PySem.Spec PyProof.Rows L2
section
variable {X : Cx} {T : TW} {W : WX} {a b c : Expr} {ca cb cc : E} {pos : Pos}
theorem m_var {i : Nat} {x : Str} (hN : X.N[i]? = some x) (hv : Vis X.env.scope x) (hd : (x == ("__debug__" : Str)) = false) (hcd : (x == ("__classdict__" : Str)) = false) : PE X (.Name x pos) (tE X.K X.mg T W (.var i)) :=
  PE.imp (pe_var hN hv hd hcd) fun σ H Q h => by
    obtain ⟨ι, Z, Zf, μ, δ, g, sr, hp⟩ := h
    simp only [ev] at hp
    split at hp
    · rename_i x e
      obtain ⟨v, e1, r⟩ := sr.get e
      exact ⟨v, e1, post.ret hp g r⟩
    · exact hp.elim
theorem con_imp {d : D} {v : V} (r : ∀ ι Z H, Rp X.K X.mg ι Z H d v) {σ : L2.St} {H : Hp} {Q : VK} (h : tE X.K X.mg T W (.con d) σ H Q) : Q v H := by
  obtain ⟨ι, Z, Zf, μ, δ, g, sr, hp⟩ := h
  simp only [ev] at hp
  exact post.ret hp g (r _ _ _)
theorem m_int {i j} : PE X (.Constant (.int i) j pos) (tE X.K X.mg T W (.con (.int i))) := PE.imp pe_int fun _ _ _ h => con_imp (d := .int i) (v := .int i) (fun _ _ _ => rfl) h
theorem m_bl {i j} : PE X (.Constant (.bool i) j pos) (tE X.K X.mg T W (.con (.bl i))) := PE.imp pe_bl fun _ _ _ h => con_imp (d := .bl i) (v := .bl i) (fun _ _ _ => rfl) h
theorem m_non {j} : PE X (.Constant .none j pos) (tE X.K X.mg T W (.con .non)) := PE.imp pe_non fun _ _ _ h => con_imp (d := .non) (v := .non) (fun _ _ _ => rfl) h
theorem m_str {i j} : PE X (.Constant (.str i) j pos) (tE X.K X.mg T W (.con (.str i))) := PE.imp pe_str fun _ _ _ h => con_imp (d := .str i) (v := .str i) (fun _ _ _ => rfl) h
theorem m_glob {x : Str} {v : V} {u : Value} {d : D} (hg : Gl X x) (hm : X.mg x = some u) (r : RelV v u) (hr : ∀ ι Z H, Rp X.K X.mg ι Z H d v) (hd : (x == ("__debug__" : Str)) = false) : PE X (.Name x pos) (tE X.K X.mg T W (.con d)) :=
  PE.imp (pe_glob hg hm r hd) fun _ _ _ h => con_imp hr h
theorem m_blt {x : Str} {n : String} (hg : Gl X x) (hm : X.mg x = none) (hv : bootBuiltins x = some (.type n)) (hn : x ≠ "__name__") (hd : (x == ("__debug__" : Str)) = false) : PE X (.Name x pos) (tE X.K X.mg T W (.con (.ty n))) :=
  PE.imp (pe_bltn (v := .ty n) hg hm hv rfl hn hd) fun _ _ _ h => con_imp (d := .ty n) (v := .ty n) (fun _ _ _ => rfl) h
theorem m_neg (ha : PE X a (tE X.K X.mg T W ca)) : PE X (.UnaryOp .USub a pos) (tE X.K X.mg T W (.neg ca)) :=
  PE.imp (pe_un un_neg ha) fun σ H Q h => by
    obtain ⟨ι, Z, Zf, μ, δ, g, sr, hp⟩ := h
    refine ⟨ι, Z, Zf, μ, δ, g, sr, post.bind hp fun x μ1 ι1 v H1 e1 g1 r1 hp1 => ?_⟩
    cases x with
    | int i => exact ⟨i, r1, post.ret hp1 g1 rfl⟩
    | _ => exact hp1.elim
theorem m_notV (ha : PE X a (tE X.K X.mg T W ca)) : PE X (.UnaryOp .Not a pos) (tE X.K X.mg T W (.not_ ca)) :=
  PE.imp (pe_not ha) fun σ H Q h => by
    obtain ⟨ι, Z, Zf, μ, δ, g, sr, hp⟩ := h
    refine ⟨ι, Z, Zf, μ, δ, g, sr, post.bind hp fun x μ1 ι1 v H1 e1 g1 r1 hp1 => ?_⟩
    cases x with
    | bl i => exact ⟨i, r1, post.ret hp1 g1 rfl⟩
    | _ => exact hp1.elim
/-- not of a thing that is true or not -/
theorem m_nott {x : Str} {px : Pos} (ha : PE X (.Name x px) (tE X.K X.mg T W ca)) : PE X (.UnaryOp .Not (.Name x px) pos) (tE X.K X.mg T W (.nott ca)) :=
  PE.imp (pe_notT ha) fun σ H Q h => by
    obtain ⟨ι, Z, Zf, μ, δ, g, sr, hp⟩ := h
    refine ⟨ι, Z, Zf, μ, δ, g, sr, post.bind hp fun x μ1 ι1 v H1 e1 g1 r1 hp1 => ?_⟩
    cases x with
    | bl i =>
      have r1' : v = V.bl i := r1
      subst r1'
      exact ⟨i, rfl, post.ret hp1 g1 rfl⟩
    | int i =>
      have r1' : v = V.int i := r1
      subst r1'
      exact ⟨!(i == 0), rfl, post.ret hp1 g1 rfl⟩
    | _ => exact hp1.elim
theorem m_andV {rest : List Expr} (ha : PE X a (tE X.K X.mg T W ca)) (hb : PE X (.BoolOp .And (b :: rest) pos) (tE X.K X.mg T W cb)) : PE X (.BoolOp .And (a :: b :: rest) pos) (tE X.K X.mg T W (.and_ ca cb)) :=
  PE.imp (pe_and ha hb) fun σ H Q h => by
    obtain ⟨ι, Z, Zf, μ, δ, g, sr, hp⟩ := h
    refine ⟨ι, Z, Zf, μ, δ, g, sr, post.bind hp fun x μ1 ι1 v H1 e1 g1 r1 hp1 => ?_⟩
    cases x with
    | bl i =>
      refine ⟨i, r1, ?_⟩
      cases i with
      | true => exact iteT ⟨ι1, Z, Zf, μ1, δ, g1, sr.ext g e1, hp1⟩
      | false => exact iteF (post.ret hp1 g1 rfl)
    | _ => exact hp1.elim
theorem m_orV {rest : List Expr} (ha : PE X a (tE X.K X.mg T W ca)) (hb : PE X (.BoolOp .Or (b :: rest) pos) (tE X.K X.mg T W cb)) : PE X (.BoolOp .Or (a :: b :: rest) pos) (tE X.K X.mg T W (.or_ ca cb)) :=
  PE.imp (pe_or ha hb) fun σ H Q h => by
    obtain ⟨ι, Z, Zf, μ, δ, g, sr, hp⟩ := h
    refine ⟨ι, Z, Zf, μ, δ, g, sr, post.bind hp fun x μ1 ι1 v H1 e1 g1 r1 hp1 => ?_⟩
    cases x with
    | bl i =>
      refine ⟨i, r1, ?_⟩
      cases i with
      | true => exact iteT (post.ret hp1 g1 rfl)
      | false => exact iteF ⟨ι1, Z, Zf, μ1, δ, g1, sr.ext g e1, hp1⟩
    | _ => exact hp1.elim
/-! ### tests -/
theorem m_val {e : Expr} {ce : E} (h : PE X e (tE X.K X.mg T W ce)) (he : ∀ whole, isTrue e X.env whole = (do let v ← whole; standAt e.pos; holding [v] (truthy v))) : PT X e (tT X.K X.mg T W ce) :=
  PT.imp (pt_val h he) fun _ _ _ q => E2T q
theorem m_cmpT {op : CmpOp} {o : Op} (ho : OpR X (compareOp op) (r2 X.K X.mg T o)) (ha : PE X a (tE X.K X.mg T W ca)) (hb : PE X b (tE X.K X.mg T W cb)) (hm : behindInMarks op b = false) : PT X (.Compare a [op] [b] pos) (tT X.K X.mg T W (.op o ca cb)) :=
  PT.imp (pt_cmpR ho ha hb hm) fun _ _ _ q => to_op (E2T q)
theorem to_chain {o o' : Op} {σ : L2.St} {H : Hp} {Q : VK} (h : tE X.K X.mg T W (.chain o o' ca cb cc) σ H Q) : tChain (r2 X.K X.mg T o) (r2 X.K X.mg T o') (tE X.K X.mg T W ca) (tE X.K X.mg T W cb) (tE X.K X.mg T W cc) σ H Q := by
  obtain ⟨ι, Z, Zf, μ, δ, g, sr, hp⟩ := h
  refine ⟨ι, Z, Zf, μ, δ, g, sr, post.bind hp fun x μ1 ι1 v H1 e1 g1 r1 hp1 => ?_⟩
  refine ⟨ι1, Z, Zf, μ1, δ, g1, sr.ext g e1, post.bind hp1 fun y μ2 ι2 w H2 e2 g2 r2 hp2 => ?_⟩
  unfold optR at hp2
  cases ho : o.do μ2 x y with
  | none => rw [ho] at hp2; exact hp2.elim
  | some r =>
    rw [ho] at hp2
    simp only [Option.bind_some, bindR] at hp2
    refine ⟨ι2, Z, μ2, x, y, r, g2, r1.ext0 e2, r2, ho, fun ι3 z H3 e3 g3 r3 => ?_⟩
    cases r with
    | bl k =>
      refine ⟨k, r3, ?_⟩
      cases k with
      | true =>
        refine iteT ⟨ι3, Z, Zf, μ2, δ, g3, (sr.ext g (e1.trans0 e2)).ext g2 e3, post.bind (hp2.mono e3) fun u μ4 ι4 t H4 e4 g4 r4 hp4 => ?_⟩
        cases ho' : o'.do μ4 y u with
        | none => simp only [optR, ho'] at hp4; exact hp4.elim
        | some r' =>
          simp only [optR, ho', Option.bind_some] at hp4
          exact ⟨ι4, Z, μ4, y, u, r', g4, (r2.ext0 e3).ext0 e4, r4, ho', hp4⟩
      | false => exact iteF (post.ret (hp2.mono e3) g3 rfl)
    | _ => exact hp2.elim
theorem m_chain {op op' : CmpOp} {o o' : Op} (ho : OpR X (compareOp op) (r2 X.K X.mg T o)) (ho' : OpR X (compareOp op') (r2 X.K X.mg T o')) (ha : PE X a (tE X.K X.mg T W ca)) (hb : PE X b (tE X.K X.mg T W cb)) (hc : PE X c (tE X.K X.mg T W cc)) (hm : lastMarks [op, op'] [b, c] = false) :
    PE X (.Compare a [op, op'] [b, c] pos) (tE X.K X.mg T W (.chain o o' ca cb cc)) := PE.imp (pe_chain ho ho' ha hb hc hm) fun _ _ _ q => to_chain q
theorem m_chainT {op op' : CmpOp} {o o' : Op} (ho : OpR X (compareOp op) (r2 X.K X.mg T o)) (ho' : OpR X (compareOp op') (r2 X.K X.mg T o')) (ha : PE X a (tE X.K X.mg T W ca)) (hb : PE X b (tE X.K X.mg T W cb)) (hc : PE X c (tE X.K X.mg T W cc)) (hm : lastMarks [op, op'] [b, c] = false) :
    PT X (.Compare a [op, op'] [b, c] pos) (tT X.K X.mg T W (.chain o o' ca cb cc)) := PT.imp (pt_chain ho ho' ha hb hc hm) fun _ _ _ q => to_chain (E2T q)
theorem evT_and (ca cb : E) (δ : List Sl) (μ : List Mo) : evT (.and_ ca cb) δ μ = bindR (evT ca δ μ) fun k μ => if k = true then evT cb δ μ else retR false μ := by
  unfold evT
  simp only [ev]
  cases h : ev ca δ μ with
  | none => rfl
  | some r =>
    obtain ⟨r, μ1⟩ := r
    cases r with
    | error e => rfl
    | ok d => cases d with
      | bl k => cases k <;> rfl
      | _ => rfl
theorem evT_or (ca cb : E) (δ : List Sl) (μ : List Mo) : evT (.or_ ca cb) δ μ = bindR (evT ca δ μ) fun k μ => if k = true then retR true μ else evT cb δ μ := by
  unfold evT
  simp only [ev]
  cases h : ev ca δ μ with
  | none => rfl
  | some r =>
    obtain ⟨r, μ1⟩ := r
    cases r with
    | error e => rfl
    | ok d => cases d with
      | bl k => cases k <;> rfl
      | _ => rfl
theorem evT_not (ca : E) (δ : List Sl) (μ : List Mo) : evT (.not_ ca) δ μ = bindR (evT ca δ μ) fun k μ => retR (!k) μ := by
  unfold evT
  simp only [ev]
  cases h : ev ca δ μ with
  | none => rfl
  | some r =>
    obtain ⟨r, μ1⟩ := r
    cases r with
    | error e => rfl
    | ok d => cases d with
      | bl k => cases k <;> rfl
      | _ => rfl
theorem m_andT1 (ha : PT X a (tT X.K X.mg T W ca)) : PW X (.BoolOp .And [a] pos) (tT X.K X.mg T W ca) := pw_and1 ha
theorem m_orT1 (ha : PT X a (tT X.K X.mg T W ca)) : PW X (.BoolOp .Or [a] pos) (tT X.K X.mg T W ca) := pw_or1 ha
theorem m_andT {rest : List Expr} (ha : PT X a (tT X.K X.mg T W ca)) (hb : PW X (.BoolOp .And (b :: rest) pos) (tT X.K X.mg T W cb)) : PW X (.BoolOp .And (a :: b :: rest) pos) (tT X.K X.mg T W (.and_ ca cb)) :=
  PW.imp (pw_and ha hb) fun σ H Q h => by
    obtain ⟨ι, Z, Zf, μ, δ, g, sr, hp⟩ := h
    rw [evT_and] at hp
    refine ⟨ι, Z, Zf, μ, δ, g, sr, post.bind hp fun k μ1 ι1 k' H1 e1 g1 r1 hp1 => ?_⟩
    subst r1
    cases k with
    | true => exact iteT ⟨ι1, Z, Zf, μ1, δ, g1, sr.ext g e1, hp1⟩
    | false => exact iteF (post.ret hp1 g1 rfl)
theorem m_orT {rest : List Expr} (ha : PT X a (tT X.K X.mg T W ca)) (hb : PW X (.BoolOp .Or (b :: rest) pos) (tT X.K X.mg T W cb)) : PW X (.BoolOp .Or (a :: b :: rest) pos) (tT X.K X.mg T W (.or_ ca cb)) :=
  PW.imp (pw_or ha hb) fun σ H Q h => by
    obtain ⟨ι, Z, Zf, μ, δ, g, sr, hp⟩ := h
    rw [evT_or] at hp
    refine ⟨ι, Z, Zf, μ, δ, g, sr, post.bind hp fun k μ1 ι1 k' H1 e1 g1 r1 hp1 => ?_⟩
    subst r1
    cases k with
    | true => exact iteT (post.ret hp1 g1 rfl)
    | false => exact iteF ⟨ι1, Z, Zf, μ1, δ, g1, sr.ext g e1, hp1⟩
theorem evT_nott (ca : E) (δ : List Sl) (μ : List Mo) : evT (.nott ca) δ μ = bindR (ev ca δ μ) fun d μ => optR ((truD d).map (!·)) μ := by
  unfold evT
  simp only [ev]
  cases h : ev ca δ μ with
  | none => rfl
  | some r =>
    obtain ⟨r, μ1⟩ := r
    cases r with
    | error e => rfl
    | ok d => cases d with
      | bl k => rfl
      | int k => rfl
      | _ => rfl
theorem m_nottT {x : Str} {px : Pos} (ha : PE X (.Name x px) (tE X.K X.mg T W ca)) : PT X (.UnaryOp .Not (.Name x px) pos) (tT X.K X.mg T W (.nott ca)) :=
  PT.imp (pt_not (pt_truth ha (fun _ => rfl))) fun σ H Q h => by
    obtain ⟨ι, Z, Zf, μ, δ, g, sr, hp⟩ := h
    rw [evT_nott] at hp
    refine ⟨ι, Z, Zf, μ, δ, g, sr, post.bind hp fun d μ1 ι1 v H1 e1 g1 r1 hp1 => ?_⟩
    cases d with
    | bl i =>
      have r1' : v = V.bl i := r1
      subst r1'
      exact ⟨i, rfl, post.ret hp1 g1 rfl⟩
    | int i =>
      have r1' : v = V.int i := r1
      subst r1'
      exact ⟨!(i == 0), rfl, post.ret hp1 g1 rfl⟩
    | _ => exact hp1.elim
theorem m_notT (ha : PT X a (tT X.K X.mg T W ca)) : PT X (.UnaryOp .Not a pos) (tT X.K X.mg T W (.not_ ca)) :=
  PT.imp (pt_not ha) fun σ H Q h => by
    obtain ⟨ι, Z, Zf, μ, δ, g, sr, hp⟩ := h
    rw [evT_not] at hp
    refine ⟨ι, Z, Zf, μ, δ, g, sr, post.bind hp fun k μ1 ι1 k' H1 e1 g1 r1 hp1 => ?_⟩
    subst r1
    exact post.ret hp1 g1 rfl
theorem m_ite (hc : PT X c (tT X.K X.mg T W cc)) (ha : PE X a (tE X.K X.mg T W ca)) (hb : PE X b (tE X.K X.mg T W cb)) : PE X (.IfExp c a b pos) (tE X.K X.mg T W (.ite cc ca cb)) :=
  PE.imp (pe_ifExp hc ha hb) fun σ H Q h => by
    obtain ⟨ι, Z, Zf, μ, δ, g, sr, hp⟩ := h
    have e : ev (.ite cc ca cb) δ μ = bindR (evT cc δ μ) fun k μ => if k = true then ev ca δ μ else ev cb δ μ := by
      unfold evT
      simp only [ev]
      cases h : ev cc δ μ with
      | none => rfl
      | some r =>
        obtain ⟨r, μ1⟩ := r
        cases r with
        | error e => rfl
        | ok d => cases d with
          | bl k => cases k <;> rfl
          | _ => rfl
    rw [e] at hp
    refine ⟨ι, Z, Zf, μ, δ, g, sr, post.bind hp fun k μ1 ι1 k' H1 e1 g1 r1 hp1 => ?_⟩
    subst r1
    cases k with
    | true => exact iteT ⟨ι1, Z, Zf, μ1, δ, g1, sr.ext g e1, hp1⟩
    | false => exact iteF ⟨ι1, Z, Zf, μ1, δ, g1, sr.ext g e1, hp1⟩
/-! ### items, slices, displays -/
theorem m_idx (hw : T.w = X.w) (hu : X.A.units + 9 < cLine) (ha : PE X a (tE X.K X.mg T W ca)) (hb : PE X b (tE X.K X.mg T W cb)) (hs : PlainIx b) : PE X (.Subscript a b pos) (tE X.K X.mg T W (.idx ca cb)) :=
  PE.imp (pe_ix (ix_ok (T := T) hw hu) ha hb hs) fun σ H Q h => by
    obtain ⟨ι, Z, Zf, μ, δ, g, sr, hp⟩ := h
    refine ⟨ι, Z, Zf, μ, δ, g, sr, post.bind hp fun x μ1 ι1 v H1 e1 g1 r1 hp1 => ?_⟩
    refine ⟨ι1, Z, Zf, μ1, δ, g1, sr.ext g e1, post.bind hp1 fun y μ2 ι2 w H2 e2 g2 r2 hp2 => ?_⟩
    unfold optR at hp2
    cases ho : ixD μ2 x y with
    | none => rw [ho] at hp2; exact hp2.elim
    | some r =>
      rw [ho] at hp2
      exact ⟨ι2, Z, μ2, x, y, r, g2, r1.ext0 e2, r2, ho, hp2⟩
theorem m_lidx {i : Nat} {x : Str} {p : Pos} (hN : X.N[i]? = some x) (hv : Vis X.env.scope x) (hd : (x == ("__debug__" : Str)) = false) (hcd : (x == ("__classdict__" : Str)) = false) (hb : PE X b (tE X.K X.mg T W cb)) (hs : PlainIx b) :
    PE X (.Subscript (.Name x p) b pos) (tE X.K X.mg T W (.lidx i cb)) :=
  PE.imp (pe_ix ix_list (pe_var hN hv hd hcd) hb hs) fun σ H Q h => by
    obtain ⟨ι, Z, Zf, μ, δ, g, sr, hp⟩ := h
    simp only [ev] at hp
    split at hp
    · rename_i xs e
      obtain ⟨a, vs, h1, h2, h3, h4⟩ := sr.ok i _ e
      refine ⟨.ref a, h1, ι, Z, Zf, μ, δ, g, sr, post.bind hp fun y μ1 ι1 v H1 e1 g1 r1 hp1 => ?_⟩
      cases y with
      | int j =>
        simp only [optR] at hp1
        cases ho : L2.atI xs j with
        | none => rw [ho] at hp1; exact hp1.elim
        | some r =>
          rw [ho] at hp1
          obtain ⟨w, h5, h6⟩ := (h4.ext0 e1).atI ho
          have := e1.keep a _ h3 (g.zl a (sr.sub a h2)).2 (by simp) (fun _ z => by cases z)
          exact ⟨a, vs, j, w, rfl, r1, SqL.of this, h5, post.ret hp1 g1 h6⟩
      | _ => exact hp1.elim
    · exact hp.elim
theorem m_no : PO X none (tR X.K X.mg T W (fun _ _ _ (a b : Option Int) => a = b) (evo .no)) := ⟨fun pins s σ H Q I h => po_none.run pins s σ H Q I (by
  obtain ⟨ι, Z, Zf, μ, δ, g, sr, hp⟩ := h
  simp only [evo] at hp
  exact post.ret hp g rfl)⟩
theorem m_yes (ha : PE X a (tE X.K X.mg T W ca)) : PO X (some a) (tR X.K X.mg T W (fun _ _ _ (a b : Option Int) => a = b) (evo (.yes ca))) := ⟨fun pins s σ H Q I h => (po_some ha).run pins s σ H Q I (by
  obtain ⟨ι, Z, Zf, μ, δ, g, sr, hp⟩ := h
  simp only [evo] at hp
  refine ⟨ι, Z, Zf, μ, δ, g, sr, post.bind hp fun x μ1 ι1 v H1 e1 g1 r1 hp1 => ?_⟩
  cases x with
  | int i => exact ⟨i, r1, post.ret hp1 g1 rfl⟩
  | _ => exact hp1.elim)⟩
theorem m_slc {lo hi : Option Expr} {cl ch : Eo} {p2 : Pos} (ha : PE X a (tE X.K X.mg T W ca)) (hl : PO X lo (tR X.K X.mg T W (fun _ _ _ (a b : Option Int) => a = b) (evo cl))) (hh : PO X hi (tR X.K X.mg T W (fun _ _ _ (a b : Option Int) => a = b) (evo ch))) :
    PE X (.Subscript a (.Slice lo hi none p2) pos) (tE X.K X.mg T W (.slc ca cl ch)) :=
  PE.imp (pe_slice (sl_ok (T := T)) ha hl hh) fun σ H Q h => by
    obtain ⟨ι, Z, Zf, μ, δ, g, sr, hp⟩ := h
    refine ⟨ι, Z, Zf, μ, δ, g, sr, post.bind hp fun x μ1 ι1 v H1 e1 g1 r1 hp1 => ?_⟩
    refine ⟨ι1, Z, Zf, μ1, δ, g1, sr.ext g e1, post.bind hp1 fun l μ2 ι2 l' H2 e2 g2 r2 hp2 => ?_⟩
    subst r2
    refine ⟨ι2, Z, Zf, μ2, δ, g2, (sr.ext g e1).ext g1 e2, post.bind hp2 fun u μ3 ι3 u' H3 e3 g3 r3 hp3 => ?_⟩
    subst r3
    unfold optR at hp3
    cases ho : slD μ3 x l u with
    | none => rw [ho] at hp3; exact hp3.elim
    | some r =>
      rw [ho] at hp3
      exact ⟨ι3, Z, μ3, x, r, g3, (r1.ext0 e2).ext0 e3, ho, hp3⟩
/-! ### argument lists, displays -/
theorem m_nil : PA X [] (tEs X.K X.mg T W .nil) := PA.imp pa_nil fun σ H Q h => by
  obtain ⟨ι, Z, Zf, μ, δ, g, sr, hp⟩ := h
  simp only [evs] at hp
  exact post.ret hp g (show Rps X.K X.mg ι Z H [] [] from rfl)
theorem m_cons {es : List Expr} {ces : Es} (ha : PE X a (tE X.K X.mg T W ca)) (hr : PA X es (tEs X.K X.mg T W ces)) (hs : starEach (a :: es) X.env = (false, eval a X.env) :: starEach es X.env) : PA X (a :: es) (tEs X.K X.mg T W (.cons ca ces)) :=
  PA.imp (pa_cons ha hr hs) fun σ H Q h => by
    obtain ⟨ι, Z, Zf, μ, δ, g, sr, hp⟩ := h
    simp only [evs] at hp
    refine ⟨ι, Z, Zf, μ, δ, g, sr, post.bind hp fun x μ1 ι1 v H1 e1 g1 r1 hp1 => ?_⟩
    refine ⟨ι1, Z, Zf, μ1, δ, g1, sr.ext g e1, post.bind hp1 fun xs μ2 ι2 vs H2 e2 g2 r2 hp2 => ?_⟩
    exact post.ret hp2 g2 (show Rps X.K X.mg ι2 Z H2 (x :: xs) (v :: vs) from ⟨v, vs, rfl, r1.ext0 e2, r2⟩)
theorem m_tup {es : List Expr} {ces : Es} {k} (h : PA X es (tEs X.K X.mg T W ces)) : PE X (.Tuple es k pos) (tE X.K X.mg T W (.tup ces)) :=
  PE.imp (pe_tup h) fun σ H Q h => by
    obtain ⟨ι, Z, Zf, μ, δ, g, sr, hp⟩ := h
    refine ⟨ι, Z, Zf, μ, δ, g, sr, post.bind hp fun xs μ1 ι1 vs H1 e1 g1 r1 hp1 => ?_⟩
    split at hp1
    · rename_i hz
      exact ⟨by rw [← r1.length]; exact hz, fun p hn => hp1 ι1 _ _ (ext_fresh hn) (g1.fresh hn) (Rp.newT hn r1)⟩
    · exact hp1.elim
theorem m_lst {es : List Expr} {ces : Es} (h : PA X es (tEs X.K X.mg T W ces)) : PE X (.List es pos) (tE X.K X.mg T W (.lst ces)) :=
  PE.imp (pe_lst h) fun σ H Q h => by
    obtain ⟨ι, Z, Zf, μ, δ, g, sr, hp⟩ := h
    refine ⟨ι, Z, Zf, μ, δ, g, sr, post.bind hp fun xs μ1 ι1 vs H1 e1 g1 r1 hp1 => ?_⟩
    split at hp1
    · rename_i hz
      exact ⟨by rw [← r1.length]; exact hz, fun p hn => hp1 ι1 _ _ (ext_fresh hn) (g1.fresh hn) (Rp.newL g1 hn r1)⟩
    · exact hp1.elim
/-- a new changeable thing -/
theorem ext_more {ι : List Addr} {H : Hp} {p : Addr} {o : HO} (hp : H p = none) : Ext ι [] H (ι ++ [p]) (upd H p o) := by
  have e : Ext ι [] H ι (upd H p o) := ext_fresh hp
  exact ⟨⟨[p], rfl, fun q hq => by rw [List.mem_singleton.mp hq]; exact hp⟩, e.keep, e.there, e.tups⟩
theorem RG.more {K : PySem.W.Frag} {mg : Str → Option Value} {ι Z : List Addr} {H : Hp} {μ : List Mo} (g : RG K mg T ι Z H μ) {p : Addr} {o : HO} {m : Mo} (hp : H p = none) (hm : RpM T.w K mg (ι ++ [p]) Z (upd H p o) p m) : RG K mg T (ι ++ [p]) Z (upd H p o) (μ ++ [m]) := by
  have g1 : RG K mg T ι Z (upd H p o) μ := g.fresh hp
  have np := g.notin hp
  have e := ext_more (ι := ι) (o := o) hp
  refine ⟨?_, by simp [g.len], fun n m' h => ?_, fun z hz => ⟨(g1.zl z hz).1, fun q => ?_⟩, g1.tabs⟩
  · rw [List.nodup_append]
    refine ⟨g.nd, by simp, fun a ha b hb => ?_⟩
    rw [List.mem_singleton.mp hb]
    exact fun q => np.1 (q ▸ ha)
  · by_cases hn : n < μ.length
    · rw [List.getElem?_append_left hn] at h
      obtain ⟨a, h1, h2⟩ := g.mem n m' h
      obtain ⟨u, q, _⟩ := h2.at
      refine ⟨a, by rw [List.getElem?_append_left (by rw [g.len]; exact hn)]; exact h1, h2.ext (Zf := []) e (by simp) (fun _ z => .inl z) (upd_ne (ne_of_none q hp))⟩
    · have hn2 : n = μ.length := by
        have := (List.getElem?_eq_some_iff.mp h).1
        simp at this; omega
      subst hn2
      rw [List.getElem?_append_right (Nat.le_refl _)] at h
      simp at h
      subst h
      exact ⟨p, by rw [← g.len]; simp, hm⟩
  · rcases List.mem_append.mp q with q | q
    · exact (g.zl z hz).2 q
    · rw [List.mem_singleton.mp q] at hz
      exact np.2 hz
theorem m_mlst {es : List Expr} {ces : Es} (h : PA X es (tEs X.K X.mg T W ces)) : PE X (.List es pos) (tE X.K X.mg T W (.mlst ces)) :=
  PE.imp (pe_lst h) fun σ H Q h => by
    obtain ⟨ι, Z, Zf, μ, δ, g, sr, hp⟩ := h
    refine ⟨ι, Z, Zf, μ, δ, g, sr, post.bind hp fun xs μ1 ι1 vs H1 e1 g1 r1 hp1 => ?_⟩
    split at hp1
    · rename_i hz
      refine ⟨by rw [← r1.length]; exact hz, fun p hn => hp1 _ _ _ (ext_more hn) (g1.more hn ⟨vs, upd_same, r1.ext0 (ext_more hn)⟩) ⟨p, rfl, ?_⟩⟩
      rw [← g1.len]; simp
    · exact hp1.elim
theorem m_lrng {p pos' pos : Pos} (hc : X.calm = true) (hg : Gl X "list") (hm : X.mg "list" = none) (hg2 : Gl X "range") (hm2 : X.mg "range" = none) (ha : PE X a (tE X.K X.mg T W ca)) (na : starEach [a] X.env = (false, eval a X.env) :: starEach [] X.env) {p2 : Pos} :
    PE X (.Call (.Name "list" p) [.Call (.Name "range" p2) [a] [] pos'] [] pos) (tE X.K X.mg T W (.lrng ca)) :=
  PE.imp (pe_listRg hc hg hm (prg_1 hg2 hm2 ha na)) fun σ H Q h => by
    obtain ⟨ι, Z, Zf, μ, δ, g, sr, hp⟩ := h
    refine ⟨ι, Z, Zf, μ, δ, g, sr, post.bind hp fun x μ1 ι1 v H1 e1 g1 r1 hp1 => ?_⟩
    cases x with
    | int j =>
      simp only at hp1
      split at hp1
      · rename_i hj
        simp only [Bool.and_eq_true, decide_eq_true_eq] at hj
        refine ⟨j, r1, ⟨by omega, by omega, by omega, by omega, by omega⟩, fun q hq => ?_⟩
        refine hp1 ι1 _ _ (ext_fresh hq) (g1.fresh hq) (Rp.newL g1 hq ?_)
        have e : rgD 0 j = ((List.range (j - 0).toNat).map fun (i : Nat) => (0 : Int) + i).map D.int := by
          unfold rgD; rw [List.map_map]; rfl
        have e2 : rgV 0 j = ((List.range (j - 0).toNat).map fun (i : Nat) => (0 : Int) + i).map V.int := by
          unfold rgV; rw [List.map_map]; rfl
        rw [e, e2]
        exact Rps.ints _
      · exact hp1.elim
    | _ => exact hp1.elim
/-! ### calls -/
theorem m_bi {f : Bi} {x : Str} {id : String} {e : Expr} {es : List Expr} {ces : Es} {p : Pos} (hc : CallR X (.builtin id) (rb X.K X.mg T f)) (hg : Gl X x) (hm : X.mg x = none) (hv : bootBuiltins x = some (.builtin id)) (ha : PA X (e :: es) (tEs X.K X.mg T W ces)) (hn : x ≠ "__name__") (hdb : (x == ("__debug__" : Str)) = false)
    (he : starEach (e :: es) X.env = (false, eval e X.env) :: starEach es X.env) (hpl : (backTo pos (starEach es X.env)).any (·.1) = false) : PE X (.Call (.Name x p) (e :: es) [] pos) (tE X.K X.mg T W (.bi f ces)) :=
  PE.imp (pe_callB hc hg hm hv ha hn hdb he hpl) fun σ H Q h => by
    obtain ⟨ι, Z, Zf, μ, δ, g, sr, hp⟩ := h
    refine ⟨ι, Z, Zf, μ, δ, g, sr, post.bind hp fun xs μ1 ι1 vs H1 e1 g1 r1 hp1 => ?_⟩
    unfold optR at hp1
    cases ho : f.do μ1 xs with
    | none => rw [ho] at hp1; exact hp1.elim
    | some r => rw [ho] at hp1; exact ⟨ι1, Z, μ1, xs, r, g1, r1, ho, hp1⟩
theorem m_biT {f : Bi} {x : Str} {id : String} {e : Expr} {es : List Expr} {ces : Es} {p : Pos} (hc : CallR X (.type id) (rb X.K X.mg T f)) (hg : Gl X x) (hm : X.mg x = none) (hv : bootBuiltins x = some (.type id)) (ha : PA X (e :: es) (tEs X.K X.mg T W ces)) (hn : x ≠ "__name__") (hdb : (x == ("__debug__" : Str)) = false)
    (he : starEach (e :: es) X.env = (false, eval e X.env) :: starEach es X.env) (hpl : (backTo pos (starEach es X.env)).any (·.1) = false) : PE X (.Call (.Name x p) (e :: es) [] pos) (tE X.K X.mg T W (.bi f ces)) :=
  PE.imp (pe_callTy hc hg hm hv ha hn hdb he hpl) fun σ H Q h => by
    obtain ⟨ι, Z, Zf, μ, δ, g, sr, hp⟩ := h
    refine ⟨ι, Z, Zf, μ, δ, g, sr, post.bind hp fun xs μ1 ι1 vs H1 e1 g1 r1 hp1 => ?_⟩
    unfold optR at hp1
    cases ho : f.do μ1 xs with
    | none => rw [ho] at hp1; exact hp1.elim
    | some r => rw [ho] at hp1; exact ⟨ι1, Z, μ1, xs, r, g1, r1, ho, hp1⟩
end
/-- what a def promises: it does what F does -/
def spF (K : PySem.W.Frag) (mg : Str → Option Value) (T : TW) (n : Nat) (F : Sem) : Sp := fun vs H Q E => vs.length = n ∧ ∃ ι Z μ ds, RG K mg T ι Z H μ ∧ Rps K mg ι Z H ds vs ∧ post K mg T (Rp K mg) ι Z H (F ds μ) Q E
section
variable {X : Cx} {T : TW} {W : WX} {a b c : Expr} {ca cb cc : E} {pos : Pos}
theorem m_call {x : Str} {e : Expr} {es : List Expr} {ces : Es} {F : Sem} {n k : Nat} {f : Addr} {fd : FuncData} {ps : List Str} {p : Pos} (FO : FnOk X.prog X.w X.K X.mg X.base (L2N.CX X.prog X.w) k f fd ps (spF X.K X.mg T n F)) (hr : Room k X.A) (hg : Gl X x) (hm : X.mg x = some (.ref f))
    (hk : PySem.W.keepIn X.K (.ref f) = true) (hb : Binds X.K fd ps []) (tk : L2N.Takes X W) (hn : es.length + 1 = n) (ha : PA X (e :: es) (tEs X.K X.mg T W ces)) (hdb : (x == ("__debug__" : Str)) = false)
    (he : starEach (e :: es) X.env = (false, eval e X.env) :: starEach es X.env) (hpl : (backTo pos (starEach es X.env)).any (·.1) = false) (hl : ∀ δ μ xs μ', evs ces δ μ = some (.ok xs, μ') → xs.length = n) :
    PE X (.Call (.Name x p) (e :: es) [] pos) (tE X.K X.mg T W (.call F ces)) :=
  PE.imp (pe_callS (E := WE W) FO hr hg hm hk hb (fun σ => L2N.passAt tk σ) ha hdb he hpl) fun σ H Q h => by
    obtain ⟨ι, Z, Zf, μ, δ, g, sr, hp⟩ := h
    have hp0 : post X.K X.mg T (Rp X.K X.mg) ι Z H (bindR (evs ces δ μ) fun xs μ => F xs μ) Q (WS W σ) := hp
    refine ⟨ι, Z, Zf, μ, δ, g, sr, ?_⟩
    cases hx : evs ces δ μ with
    | none => rw [hx] at hp0; exact hp0.elim
    | some r =>
      obtain ⟨r, μ1⟩ := r
      cases r with
      | error e => rw [hx] at hp0; exact hp0
      | ok xs =>
        rw [hx] at hp0
        have ln := hl _ _ _ _ hx
        exact fun ι1 vs H1 e1 g1 r1 => ⟨by rw [← r1.length]; exact ln, ι1, Z, μ1, xs, g1, r1, hp0.mono e1⟩
end
end Mi
set_option Elab.async false
set_option linter.all false
set_option maxRecDepth 100000
set_option maxHeartbeats 4000000
/-! Msb: [e] * k as a changeable list; a dict with written text keys. -/
namespace Mi
open PySem PySem.Spec PyProof.Rows L2
section
variable {X : Cx} {T : TW} {W : WX} {a b : Expr} {ca cb : E} {pos : Pos}
theorem rep1 {α : Type} (n : Nat) (x : α) : (List.replicate n [x]).flatten = List.replicate n x := by
  induction n with
  | zero => rfl
  | succ n ih => rw [List.replicate_succ, List.flatten_cons, ih]; rfl
theorem Rps.repl {K : PySem.W.Frag} {mg : Str → Option Value} {ι Z : List Addr} {H : Hp} {d : D} {v : V} (h : Rp K mg ι Z H d v) : ∀ n : Nat, Rps K mg ι Z H (List.replicate n d) (List.replicate n v)
  | 0 => rfl
  | n + 1 => ⟨v, _, rfl, h, Rps.repl h n⟩
theorem m_mrep {p : Pos} (ha : PE X a (tE X.K X.mg T W ca)) (hb : PE X b (tE X.K X.mg T W cb)) (hs : starEach [a] X.env = (false, eval a X.env) :: starEach [] X.env) : PE X (.BinOp (.List [a] p) .Mult b pos) (tE X.K X.mg T W (.mrep ca cb)) :=
  PE.imp (pe_op op_rep (pe_lst (pa_cons ha pa_nil hs)) hb) fun σ H Q h => by
    obtain ⟨ι, Z, Zf, μ, δ, g, sr, hp⟩ := h
    refine ⟨ι, Z, Zf, μ, δ, g, sr, post.bind hp fun x μ1 ι1 v H1 e1 g1 r1 hp1 => ⟨by show 1 ≤ sizeLine; decide, fun q hq => ?_⟩⟩
    have e2 : Ext ι1 [] H1 ι1 (upd H1 q (.lst [v])) := ext_fresh hq
    refine ⟨ι1, Z, Zf, μ1, δ, g1.fresh hq, (sr.ext g e1).ext g1 e2, post.bind (hp1.mono e2) fun y μ2 ι2 w H2 e3 g2 r2 hp2 => ?_⟩
    cases y with
    | int j =>
      simp only at hp2
      split at hp2
      · rename_i hc
        simp only [Bool.and_eq_true, decide_eq_true_eq] at hc
        have hv2 : H2 q = some (.lst [v]) := e3.keep q _ upd_same (g1.notin hq).1 (by simp) (fun _ z => by cases z)
        refine ⟨q, j, [v], rfl, r2, hv2, hc.1.1, hc.1.2, by simpa using hc.2, fun p hn => ?_⟩
        have r3 : Rp X.K X.mg ι2 Z H2 x v := (r1.ext0 e2).ext0 e3
        rw [rep1]
        exact hp2 _ _ _ (ext_more hn) (g2.more hn ⟨_, upd_same, (Rps.repl r3 _).ext0 (ext_more hn)⟩) ⟨p, rfl, by rw [← g2.len]; simp⟩
      · exact hp2.elim
    | _ => exact hp2.elim
end
/-! ### a dict -/
section
variable {K : PySem.W.Frag} {mg : Str → Option Value} {T : TW} {ι ι2 Z : List Addr} {H H2 : Hp} {μ μ2 : List Mo} {p : Addr} {kv0 kv1 : List (Key × V)}
theorem ext_dict (hp : H p = none) (e : Ext ι [] (upd H p (.dK kv0)) ι2 H2) : Ext ι [] H (ι2 ++ [p]) (upd H2 p (.dK kv1)) := by
  obtain ⟨l, rfl, h1⟩ := e.ids
  refine ⟨⟨l ++ [p], by rw [List.append_assoc], fun q hq => ?_⟩, fun a o q n1 n2 nt => ?_, fun a o q => ?_, fun a xs q => ?_⟩
  · rcases List.mem_append.mp hq with z | z
    · have := h1 q z
      by_cases e : q = p
      · rw [e]; exact hp
      · rw [upd_ne e] at this; exact this
    · rw [List.mem_singleton.mp z]; exact hp
  · have nap : a ≠ p := ne_of_none q hp
    rw [upd_ne nap]
    exact e.keep a o (by rw [upd_ne nap]; exact q) n1 n2 nt
  · have nap : a ≠ p := ne_of_none q hp
    rw [upd_ne nap]
    exact e.there a o (by rw [upd_ne nap]; exact q)
  · have nap : a ≠ p := ne_of_none q hp
    rw [upd_ne nap]
    exact e.tups a xs (by rw [upd_ne nap]; exact q)
mutual
theorem Rp.dict (hp : H2 p = some (.dK kv0)) : ∀ (d : D) (v : V), Rp K mg ι2 Z H2 d v → Rp K mg (ι2 ++ [p]) Z (upd H2 p (.dK kv1)) d v
  | .non, _, h => h
  | .bl _, _, h => h
  | .int _, _, h => h
  | .str _, _, h => h
  | .ty _, _, h => h
  | .glo _, _, h => h
  | .tup ds, v, h => by
    obtain ⟨a, vs, rfl, h1, h2⟩ := h
    refine ⟨a, vs, rfl, ?_, Rps.dict hp ds vs h2⟩
    rcases h1 with h1 | h1
    · exact .inl (by rw [upd_ne (fun z => by rw [z, hp] at h1; cases h1)]; exact h1)
    · exact .inr h1
  | .lst ds, v, h => by
    obtain ⟨a, vs, rfl, ⟨h1, h2, h3⟩, h4⟩ := h
    have nap : a ≠ p := fun z => by rw [z, hp] at h1; cases h1
    exact ⟨a, vs, rfl, ⟨by rw [upd_ne nap]; exact h1, fun z => (List.mem_append.mp z).elim h2 fun z => nap (List.mem_singleton.mp z), h3⟩, Rps.dict hp ds vs h4⟩
  | .obj n, v, h => by
    obtain ⟨a, rfl, h1⟩ := h
    exact ⟨a, rfl, by rw [List.getElem?_append_left (List.getElem?_eq_some_iff.mp h1).1]; exact h1⟩
  | .scr ns, v, h => by
    obtain ⟨a, rfl, h1⟩ := h
    refine ⟨a, rfl, ?_⟩
    rcases h1 with ⟨h1, h2, h3⟩ | h1
    · have nap : a ≠ p := fun z => by
        rcases h1 with h1 | ⟨o, h1⟩
        · rw [z, hp] at h1; cases h1
        · rw [z, hp] at h1; cases h1
      refine .inl ⟨?_, fun z => (List.mem_append.mp z).elim h2 fun z => nap (List.mem_singleton.mp z), h3⟩
      rcases h1 with h1 | ⟨o, h1⟩
      · exact .inl (by rw [upd_ne nap]; exact h1)
      · exact .inr ⟨o, by rw [upd_ne nap]; exact h1⟩
    · exact .inr h1
theorem Rps.dict (hp : H2 p = some (.dK kv0)) : ∀ (ds : List D) (vs : List V), Rps K mg ι2 Z H2 ds vs → Rps K mg (ι2 ++ [p]) Z (upd H2 p (.dK kv1)) ds vs
  | [], _, h => h
  | d :: ds, vs, h => by
    obtain ⟨v, vs', rfl, h1, h2⟩ := h
    exact ⟨v, vs', rfl, Rp.dict hp d v h1, Rps.dict hp ds vs' h2⟩
end
theorem RpM.dict (hp : H2 p = some (.dK kv0)) {a : Addr} {m : Mo} (ha : a ≠ p) (h : RpM T.w K mg ι2 Z H2 a m) : RpM T.w K mg (ι2 ++ [p]) Z (upd H2 p (.dK kv1)) a m := by
  cases m with
  | lst ds => obtain ⟨vs, h1, h2⟩ := h; exact ⟨vs, by rw [upd_ne ha]; exact h1, Rps.dict hp _ _ h2⟩
  | dct kvs => obtain ⟨vs, h1, h2⟩ := h; exact ⟨vs, by rw [upd_ne ha]; exact h1, Rps.dict hp _ _ h2⟩
  | ins c fs => obtain ⟨C, dx, vs, h0, h1, h2⟩ := h; exact ⟨C, dx, vs, h0, by rw [upd_ne ha]; exact h1, Rps.dict hp _ _ h2⟩
  | dcn kvs =>
    obtain ⟨xs, h1, h2, h3, h4, h5⟩ := h
    exact ⟨xs, by rw [upd_ne ha]; exact h1, h2, h3, NdK.mono (fun b ys q => by rw [upd_ne (fun z => by rw [z, hp] at q; cases q)]; exact q) h4, Rps.dict hp _ _ h5⟩
theorem RG.dict (g : RG K mg T ι2 Z H2 μ2) (hp : H2 p = some (.dK kv0)) (ni : p ∉ ι2) (nz : p ∉ Z) {m : Mo} (hm : RpM T.w K mg (ι2 ++ [p]) Z (upd H2 p (.dK kv1)) p m) : RG K mg T (ι2 ++ [p]) Z (upd H2 p (.dK kv1)) (μ2 ++ [m]) := by
  refine ⟨?_, by simp [g.len], fun n m' h => ?_, fun z hz => ⟨?_, fun q => ?_⟩, fun t ht => ?_⟩
  · rw [List.nodup_append]
    refine ⟨g.nd, by simp, fun a ha b hb => ?_⟩
    rw [List.mem_singleton.mp hb]
    exact fun q => ni (q ▸ ha)
  · by_cases hn : n < μ2.length
    · rw [List.getElem?_append_left hn] at h
      obtain ⟨a, h1, h2⟩ := g.mem n m' h
      refine ⟨a, by rw [List.getElem?_append_left (by rw [g.len]; exact hn)]; exact h1, h2.dict hp fun q => ni (q ▸ List.mem_of_getElem? h1)⟩
    · have hn2 : n = μ2.length := by
        have := (List.getElem?_eq_some_iff.mp h).1
        simp at this
        omega
      subst hn2
      rw [List.getElem?_append_right (Nat.le_refl _)] at h
      simp at h
      subst h
      exact ⟨p, by rw [← g.len, List.getElem?_append_right (Nat.le_refl _)]; simp, hm⟩
  · obtain ⟨us, hu⟩ := (g.zl z hz).1
    exact ⟨us, by rw [upd_ne (fun q => nz (by rw [← q]; exact hz))]; exact hu⟩
  · rcases List.mem_append.mp q with q | q
    · exact (g.zl z hz).2 q
    · exact nz (List.mem_singleton.mp q ▸ hz)
  · obtain ⟨ps, h1, h2, h3⟩ := g.tabs t ht
    refine ⟨ps, ?_, h2, fun pos cv hc => ?_⟩
    · rw [upd_ne (fun z => by rw [z, hp] at h1; cases h1)]; exact h1
    · obtain ⟨c, e1, e2⟩ := h3 pos cv hc
      exact ⟨c, e1, by rw [upd_ne (ne_of e2 hp (by unfold LamX.CodeO; simp))]; exact e2⟩
theorem merge_id : ∀ (kvs acc : List (Key × V)), (acc.map (·.1) ++ kvs.map (·.1)).Nodup → mergeK acc kvs = acc ++ kvs
  | [], acc, _ => by simp [mergeK]
  | q :: kvs, acc, h => by
    have hq : (acc.any fun kv => decide (kv.1 = q.1)) = false := by
      rw [List.any_eq_false]
      intro x hx
      simp only [decide_eq_true_eq]
      intro e
      rw [List.nodup_append] at h
      exact h.2.2 _ (List.mem_map.mpr ⟨x, hx, rfl⟩) _ (by simp) e
    have hp : L2.putK acc q.1 q.2 = acc ++ [q] := by
      unfold L2.putK
      rw [hq]
      rfl
    have := merge_id kvs (acc ++ [q]) (by simpa using h)
    show mergeK (L2.putK acc q.1 q.2) kvs = _
    rw [hp, this]
    simp
end
theorem zip_keys : ∀ (ks : List Str) (vs : List V), (ks.map V.str).zip vs = ((ks.map fun k => (Sum.inr k : Key)).zip vs).map fun kv => (kV kv.1, kv.2)
  | [], _ => rfl
  | _ :: _, [] => rfl
  | k :: ks, v :: vs => by
    simp only [List.map_cons, List.zip_cons_cons, zip_keys ks vs]
    rfl
def trsOf (K : PySem.W.Frag) (mg : Str → Option Value) (T : TW) (W : WX) : List Str → Es → List (TE × TE)
  | k :: ks, .cons e es => (tC (.str k), tE K mg T W e) :: trsOf K mg T W ks es
  | _, _ => []
def lenE : Es → Nat
  | .nil => 0
  | .cons _ es => lenE es + 1
section
variable {X : Cx} {T : TW} {W : WX} {pos : Pos}
theorem trs_run {K : PySem.W.Frag} {mg : Str → Option Value} {σ : L2.St} : ∀ (ks : List Str) (ces : Es), ks.length = lenE ces → ∀ (ι Z Zf : List Addr) (μ : List Mo) (δ : List Sl) (H : Hp) (Q : List V → Hp → Prop) (Qp : List (V × V) → Hp → Prop), (∀ vs H', Q vs H' → Qp ((ks.map V.str).zip vs) H') → RG K mg T ι Z H μ → SR K mg ι Z Zf H δ σ → post K mg T (Rps K mg) ι Z H (evs ces δ μ) Q (WS W σ) →
    tPairs (trsOf K mg T W ks ces) σ H Qp
  | [], .nil, _, ι, Z, Zf, μ, δ, H, Q, Qp, hQ, g, sr, hp => by
    simp only [evs] at hp
    exact hQ [] H (post.ret hp g rfl)
  | k :: ks, .cons e es, hl, ι, Z, Zf, μ, δ, H, Q, Qp, hQ, g, sr, hp => by
    simp only [evs] at hp
    refine ⟨ι, Z, Zf, μ, δ, g, sr, post.bind hp fun x μ1 ι1 v H1 e1 g1 r1 hp1 => ?_⟩
    exact trs_run ks es (by simpa [lenE] using hl) ι1 Z Zf μ1 δ H1 (fun vs H' => Q (v :: vs) H') _ (fun vs H' q => hQ (v :: vs) H' q) g1 (sr.ext g e1) (post.bind hp1 fun xs μ2 ι2 vs H2 e2 g2 r2 hp2 => post.ret hp2 g2 ⟨v, vs, rfl, r1.ext0 e2, r2⟩)
  | [], .cons _ _, hl, _, _, _, _, _, _, _, _, _, _, _, _ => by simp [lenE] at hl
  | _ :: _, .nil, hl, _, _, _, _, _, _, _, _, _, _, _, _ => by simp [lenE] at hl
theorem m_dct {keys : List (Option Expr)} {values : List Expr} {ks : List Str} {ces : Es} (h : PPs X pos keys values (trsOf X.K X.mg T W ks ces)) (hall : keys.all (·.isSome) = true) (hl : keys.length = values.length) (h0 : keys ≠ []) (h15 : keys.length ≤ 15) (hk : ks.length = lenE ces) :
    PE X (.Dict keys values pos) (tE X.K X.mg T W (.dct ks ces)) :=
  PE.imp (pe_disp h hall hl h0 h15) fun σ H Q hh => by
    obtain ⟨ι, Z, Zf, μ, δ, g, sr, hp⟩ := hh
    intro p hn
    have e0 : Ext ι [] H ι (upd H p (.dK [])) := ext_fresh hn
    have g0 : RG X.K X.mg T ι Z (upd H p (.dK [])) μ := g.fresh hn
    have nz := g.notin hn
    simp only [ev] at hp
    refine trs_run (W := W) ks ces hk ι Z Zf μ δ _ (fun vs H2 => H2 p = some (.dK []) ∧ vs.length = ks.length ∧ ks.length ≤ 15 ∧ Q (.ref p) (upd H2 p (.dK (mergeK [] ((ks.map fun k => (Sum.inr k : Key)).zip vs))))) _ (fun vs H2 ⟨e2, e3, e4, q⟩ => ⟨e2, (ks.map fun k => (Sum.inr k : Key)).zip vs, zip_keys ks vs, ?_, q⟩) g0 (sr.ext g e0) ?_
    · rw [List.length_zip, List.length_map]; omega
    · match hq : evs ces δ μ, hp with
      | none, hp => exact hp.elim
      | some (.error x, μ1), hp => exact hp.mono e0
      | some (.ok xs, μ2), hp =>
        intro ι2 vs H2 e g2 r2
        replace hp : post X.K X.mg T (Rp X.K X.mg) ι Z H (if (decide (ks.length = xs.length) && decide (ks.length ≤ 15) && decide ks.Nodup && !ks.isEmpty) = true then retR (.obj μ2.length) (μ2 ++ [.dct (ks.zip xs)]) else none) Q (WS W σ) := hp
        split at hp
        · rename_i hc
          simp only [Bool.and_eq_true, decide_eq_true_eq] at hc
          obtain ⟨⟨⟨c1, c2⟩, c3⟩, c4⟩ := hc
          have hv2 : H2 p = some (.dK []) := e.keep p _ upd_same nz.1 (by simp) (fun _ z => by cases z)
          have ni : p ∉ ι2 := by
            obtain ⟨l, rfl, h1⟩ := e.ids
            intro z
            rcases List.mem_append.mp z with z | z
            · exact nz.1 z
            · have := h1 p z; rw [upd_same] at this; cases this
          have lv : vs.length = ks.length := by rw [c1, r2.length]
          have mk : mergeK [] ((ks.map fun k => (Sum.inr k : Key)).zip vs) = (ks.map fun k => (Sum.inr k : Key)).zip vs := by
            rw [merge_id _ [] ?_]
            · rfl
            · rw [List.map_nil, List.nil_append]
              rw [show ((ks.map fun k => (Sum.inr k : Key)).zip vs).map (·.1) = ks.map fun k => (Sum.inr k : Key) from List.map_fst_zip (by simp [lv])]
              exact List.Pairwise.map _ (fun a b h e => h (by cases e; rfl)) c3
          refine ⟨hv2, lv, c2, ?_⟩
          rw [mk]
          refine hp (ι2 ++ [p]) (.ref p) _ (ext_dict hn e) (g2.dict hv2 ni nz.2 ⟨vs, ?_, ?_⟩) ⟨p, rfl, by rw [← g2.len]; simp⟩
          · rw [upd_same]
            rw [show ((ks.zip xs).map fun p => (Sum.inr p.1 : Key)) = ks.map fun k => (Sum.inr k : Key) by rw [← List.map_fst_zip (l₁ := ks) (l₂ := xs) (by omega), List.map_map, List.map_fst_zip (by omega)]; rfl]
          · rw [show (ks.zip xs).map (·.2) = xs from List.map_snd_zip (by omega)]
            exact Rps.dict hv2 _ _ r2
        · exact hp.elim
end
end Mi
set_option Elab.async false
set_option linter.all false
set_option maxRecDepth 100000
set_option maxHeartbeats 4000000
/-! Msc: e[::-1] of a list or a tuple. -/
namespace Mi
open PySem PySem.Spec PyProof.Rows L2 HT
section
variable {prog : Program} {w : World} {A : Around} {E : Value → Shared → Prop} {s : Shared}
theorem adj_rev (n : Nat) : Builtin.Slice.sliceAdjust none none (-1) (n : Int) = ((n : Int) - 1, -1) := by
  simp [Builtin.Slice.sliceAdjust]
theorem pl_rev (n : Nat) : Builtin.Slice.slicePlaces ((n : Int) - 1) (-1) (-1) = n := by
  unfold Builtin.Slice.slicePlaces
  simp
  omega
theorem fm_congr {α β : Type} {f g : α → Option β} : ∀ {l : List α}, (∀ m ∈ l, f m = g m) → l.filterMap f = l.filterMap g
  | [], _ => rfl
  | a :: l, h => by rw [List.filterMap_cons, List.filterMap_cons, h a List.mem_cons_self, fm_congr fun m hm => h m (List.mem_cons_of_mem _ hm)]
theorem pick_rev (xs : Array Value) : ((List.range xs.size).filterMap fun (m : Nat) => xs[((xs.size : Int) - 1 + (m : Int) * -1).toNat]?) = xs.toList.reverse := by
  have h := congrArg Array.toList (PySem.W.krv_pick xs)
  unfold slicePick at h
  rw [PySem.W.krv_bounds] at h
  replace h : ((sliceRange ((xs.size : Int) - 1) (-1) (-1)).filterMap (xs[·]?)).toArray.toList = xs.toList.reverse.toArray.toList := h
  rw [PySem.W.krv_sliceRange, List.filterMap_map] at h
  simp only [List.toList_toArray] at h
  rw [← h]
  apply fm_congr
  intro m hm
  have := List.mem_range.mp hm
  show xs[_]? = xs[xs.size - 1 - m]?
  congr 1
  omega
theorem sliceApplied_rev {sl : Addr} {vs : Value} {n : Nat} {Q : Int × Int × Nat → Shared → Prop} (hs : s.heap.IsSliceOf sl .none .none vs) (ps : IsPart vs (some (-1))) (h : Q ((n : Int) - 1, -1, n) s) : wpAny (model prog w) A (Builtin.Slice.sliceApplied (.ref sl) (pure (n : Int))) Q E s := by
  obtain ⟨os, hos, hcs, hds⟩ := id hs
  unfold Builtin.Slice.sliceApplied Builtin.Slice.sliceFields
  refine wpAny_bind (wpAny_bind (wpAny_field hos hds (x := .none) rfl (wpAny_bind (wpAny_field hos hds (x := .none) rfl (wpAny_bind (wpAny_field hos hds (x := vs) rfl (wpAny_pure ?_)))))))
  refine wpAny_bind (slicePart_ ps ?_)
  show wpAny _ _ (if ((-1 : Int) == 0) = true then _ else _) _ _ s
  rw [if_neg (by decide)]
  refine wpAny_bind (slicePart_none (wpAny_bind (slicePart_none (wpAny_bind (wpAny_pure ?_)))))
  show wpAny _ _ (match Builtin.Slice.sliceAdjust none none (-1) (n : Int) with | (lo, hi) => pure (lo, (-1 : Int), Builtin.Slice.slicePlaces lo hi (-1))) _ _ s
  rw [adj_rev]
  show wpAny _ _ (pure ((n : Int) - 1, (-1 : Int), Builtin.Slice.slicePlaces ((n : Int) - 1) (-1) (-1))) _ _ s
  rw [pl_rev]
  exact wpAny_pure h
theorem getItem_tuple_rev {t sl : Addr} {items : Array Value} {vs : Value} {Q : Value → Shared → Prop} (ht : IsTup s.heap t items) (hs : s.heap.IsSliceOf sl .none .none vs) (ps : IsPart vs (some (-1)))
    (h : Q (.ref s.heap.objs.size) { s with heap := s.heap.push { cls := .type "tuple", data := .seq items.toList.reverse.toArray } }) (hsz : items.size ≤ sizeLine) : wpAny (model prog w) A (getItem (.ref t) (.ref sl)) Q E s := by
  have htake : sizeOk (.seq items.toList.reverse.toArray) := by
    show items.toList.reverse.toArray.size ≤ sizeLine
    rw [List.size_toArray, List.length_reverse, Array.length_toList]; exact hsz
  obtain ⟨os, hos, hcs, hds⟩ := id hs
  have hTs : s.TypeIs (.ref sl) "slice" := ⟨os, hos, hcs⟩
  unfold getItem
  try with_reducible refine wpAny_holding ?_
  first | refine wpAny_bind (wpAny_pure ?_) | skip
  refine wpAny_bind (wpAny_sequenceKey ht.typeIs (by decide) (wpAny_bind (wpAny_callSpecial?_slot (name := Str.ofString "__getitem__") ht.typeIs PyProof.Rows.slot_tuple_getitem (wpAny_call_entry PyProof.Rows.slot_tuple_getitem ht.typeIs entry_tuple_getitem ?_ (args_tuple_getitem _ _)))))
  show wpAny _ _ (Builtin.Tuple.tupleItemsOf (.ref t) >>= _) _ _ s
  refine wpAny_bind (tupleItemsOf_ ht (wpAny_bind (wpAny_typeOf hTs ?_)))
  rw [if_pos (by decide)]
  refine wpAny_bind (sliceApplied_rev hs ps ?_)
  show wpAny _ _ (if ((items.size : Int) - 1 == 0 && (-1 : Int) == 1 && items.size == items.size) = true then _ else _) _ _ s
  rw [if_neg (by simp), pick_rev]
  first
    | exact wpAny_bind (m := Builtin.Tuple.tupleExact _) (wpAny_newObj_type (wpAny_pure ⟨_, rfl, wpAny_pure h⟩) htake)
    | exact wpAny_bind (m := Builtin.Tuple.tupleExact _) (wpAny_newObj_type (wpAny_bind (wpAny_pure (wpAny_pure ⟨_, rfl, wpAny_pure h⟩))) htake)
    | exact wpAny_bind (wpAny_bind (m := Builtin.Tuple.tupleExact _) (wpAny_newObj_type (wpAny_pure (wpAny_pure ⟨_, rfl, wpAny_pure h⟩)) htake))
    | exact wpAny_bind (wpAny_bind (m := Builtin.Tuple.tupleExact _) (wpAny_newObj_type (wpAny_pure ⟨_, rfl, wpAny_pure h⟩) htake))
end
section
variable {X : Cx} {T : TW} {W : WX} {e : Expr} {ce : E}
/-- a list or a tuple from the end -/
def tRevA (K : PySem.W.Frag) (te : TE) : TE := fun σ H Q => te σ H fun x H1 => ∃ a xs, x = .ref a ∧ ((SqL K H1 a xs ∧ ∀ p, H1 p = none → Q (.ref p) (upd H1 p (.lst xs.reverse))) ∨ (SqT K H1 a xs ∧ ∀ p, H1 p = none → Q (.ref p) (upd H1 p (.tup xs.reverse))))
theorem pe_revA {te : TE} {k : Nat} {p1 p2 p3 pos : Pos} (he : PE X e te) : PE X (.Subscript e (.Slice none none (some (.UnaryOp .USub (.Constant (.int 1) k p1) p2)) p3) pos) (tRevA X.K te) := by
  refine ⟨fun pins s σ H Q I h => Subscript_ (thn (he.run pins s σ H _ I h) fun v s1 ⟨x, H1, I1, r1, a, xs, ex, q⟩ => ?_)⟩
  subst ex
  cases r1
  have hst : PO X (some (.UnaryOp .USub (.Constant (.int 1) k p1) p2)) (tPart (tUn (rU fun i => .int (-i)) (tC (.int 1)))) := po_some (pe_un un_neg pe_int)
  refine wpAny_Slice (thn (po_none.run pins s1 σ H1 (fun o H2 => o = none ∧ H2 = H1) I1 ⟨rfl, rfl⟩) fun vl s2 ⟨l, H2, I2, pl, el, e2⟩ => ?_)
  subst el e2
  refine thn (po_none.run pins s2 σ H2 (fun o H3 => o = none ∧ H3 = H2) I2 ⟨rfl, rfl⟩) fun vu s3 ⟨u, H3, I3, pu, eu, e3⟩ => ?_
  subst eu e3
  refine thn (hst.run pins s3 σ H3 (fun o H4 => o = some (-1) ∧ H4 = H3) I3 ⟨1, rfl, -1, rfl, rfl, rfl⟩) fun vs s4 ⟨o, H4, I4, ps, eo, e4⟩ => ?_
  subst eo e4
  have evl : vl = .none := by cases pl; rfl
  have evu : vu = .none := by cases pu; rfl
  subst evl evu
  have I5 : Inv X pins σ H4 { s4 with heap := s4.heap.push { cls := .type "slice", data := .fields #[.none, .none, vs] } } := I4.kept (t' := s4.toks) fun b ob q => Heap.get?_push_of_some _ q
  show wpAny (model X.prog X.w) X.A (subscriptTail e (.Slice none none (some (.UnaryOp .USub (.Constant (.int 1) k p1) p2)) p3) (.ref a) (.ref s4.heap.objs.size)) (EP X pins σ Q) X.xe { s4 with heap := s4.heap.push { cls := .type "slice", data := .fields #[.none, .none, vs] } }
  rcases q with ⟨hx, q⟩ | ⟨hx, q⟩
  · obtain ⟨its, r, ht, hz⟩ := I5.list hx
    have hlen := r.length
    refine tail_any (ops := [.ref a, .ref s4.heap.objs.size]) ht.isList.typeIs (PySem.slot_list_getitem.lookup) ?_ (by with_unfolding_all rfl)
    refine wpAny_getItem_list_slice ht.isList (Heap.IsSliceOf.new _ .none .none vs) .none .none ps (by decide) ?_ (by rw [List.size_toArray]; omega)
    rw [PySem.W.krv_pick]
    exact ⟨.ref _, _, I5.laid (t' := s4.toks) (o := .lst xs.reverse) (fun b ob q => Heap.get?_push_of_some _ q) (Nat.le_refl _) ⟨by rw [List.length_reverse]; exact hz, _, 0, r.reverse, Heap.get?_push_size _ rfl⟩, rfl, q _ (I5.hok.fresh (Nat.le_refl _))⟩
  · obtain ⟨its, r, ht, hz⟩ := I5.tuple hx
    have hlen := r.length
    refine tail_any (ops := [.ref a, .ref s4.heap.objs.size]) ht.typeIs (PyProof.Rows.slot_tuple_getitem.lookup) ?_ (by with_unfolding_all rfl)
    refine getItem_tuple_rev ht (Heap.IsSliceOf.new _ .none .none vs) ps ?_ (by rw [List.size_toArray]; omega)
    exact ⟨.ref _, _, I5.laid (t' := s4.toks) (o := .tup xs.reverse) (fun b ob q => Heap.get?_push_of_some _ q) (Nat.le_refl _) ⟨by rw [List.length_reverse]; exact hz, _, r.reverse, ⟨_, Heap.get?_push_size _ rfl, rfl, _, rfl⟩⟩, rfl, q _ (I5.hok.fresh (Nat.le_refl _))⟩
theorem Rps.rev {K : PySem.W.Frag} {mg : Str → Option Value} {ι Z : List Addr} {H : Hp} : ∀ {ds : List Mi.D} {vs : List V}, Rps K mg ι Z H ds vs → Rps K mg ι Z H ds.reverse vs.reverse
  | [], _, h => by rw [h]; exact rfl
  | d :: ds, _, h => by
    obtain ⟨v, vs', rfl, h1, h2⟩ := h
    rw [List.reverse_cons, List.reverse_cons]
    exact (Rps.rev h2).append ⟨v, [], rfl, h1, rfl⟩
theorem m_rev {k : Nat} {p1 p2 p3 pos : Pos} (he : PE X e (tE X.K X.mg T W ce)) : PE X (.Subscript e (.Slice none none (some (.UnaryOp .USub (.Constant (.int 1) k p1) p2)) p3) pos) (tE X.K X.mg T W (.rev ce)) :=
  PE.imp (pe_revA he) fun σ H Q h => by
    obtain ⟨ι, Z, Zf, μ, δ, g, sr, hp⟩ := h
    refine ⟨ι, Z, Zf, μ, δ, g, sr, post.bind hp fun x μ1 ι1 v H1 e1 g1 r1 hp1 => ?_⟩
    unfold optR revD at hp1
    split at hp1
    · rename_i xs e2
      obtain ⟨a, vs, rfl, h1, h2⟩ := see_lst g1 e2 r1
      exact ⟨a, vs, rfl, .inl ⟨SqL.of h1, fun p hn => hp1 _ _ _ (ext_fresh hn) (g1.fresh hn) (Rp.newL g1 hn (Rps.rev h2))⟩⟩
    · rename_i xs e2
      obtain ⟨a, vs, rfl, h1, h2⟩ := see_seq g1 e2 r1
      exact ⟨a, vs, rfl, .inr ⟨h1.sq, fun p hn => hp1 _ _ _ (ext_fresh hn) (g1.fresh hn) (Rp.newT hn (Rps.rev h2))⟩⟩
    · exact hp1.elim
end
end Mi
set_option Elab.async false
set_option linter.all false
set_option maxRecDepth 100000
set_option maxHeartbeats 4000000
/-! Nh: enumerate over a tuple. -/
namespace Mt2
open PySem PySem.Spec PyProof.Rows L2
abbrev St := L2.St
theorem meets_new {v : Value} {o : Obj} {H : Heap → Prop} (B : Begins v o H) :
    Meets (Builtin.«enumerate.__new__» ⟨[.type "enumerate", v], []⟩) (fun _ R s => H s.heap ∧ R (.ok (.ret (.ref (s.heap.push o).objs.size))) { s with heap := (s.heap.push o).push { cls := .type "enumerate", data := .fields #[.none, .bool false, .ref s.heap.objs.size, rawInt 0, .none, .none] } }) :=
  .of_wp fun prog w A R s h => by
    obtain ⟨hp, g, d, tk, os⟩ := s
    obtain ⟨h1, h⟩ := h
    have hsub := sub_enumerate
    have q1 : ∀ {A' : Around} {E : Value → Shared → Prop} {Q : Value → Shared → Prop}, Q (.ref hp.objs.size) ⟨hp.push o, g, d, tk, os⟩ → wpAny (model prog w) A' (pyIter v) Q E ⟨hp, g, d, tk, os⟩ := fun q => B.iter prog w _ _ ⟨hp, g, d, tk, os⟩ _ h1 q
    wp_walk using q1
    refine wpAny_stack_any fun st => wpAny_pure ?_
    split
    · rename_i c _ _ _ _ _
      cases (c == Value.type "enumerate") <;> (wp_walk using q1; exact ⟨_, rfl, h⟩)
    · wp_walk using q1
      exact ⟨_, rfl, h⟩
theorem call_enumT {prog : Program} {w : World} {A : Around} {E : Value → Shared → Prop} {s : Shared} {v : Value} {o : Obj} {H : Heap → Prop} {Q : Value → Shared → Prop} (B : Begins v o H) (h1 : H s.heap)
    (h : ∀ h', IsEnum h' (s.heap.objs.size + 1) s.heap.objs.size 0 .none → h'.get? s.heap.objs.size = some o → h'.objs.size = s.heap.objs.size + 2 → (∀ b o, s.heap.get? b = some o → h'.get? b = some o) → Q (.ref (s.heap.objs.size + 1)) { s with heap := h' }) :
    wpAny (model prog w) A (call (.type "enumerate") [v]) Q E s := by
  refine callType_new F.called_enumerate (by decide) (F.typeCall_enumerate_1 _) (F.newCall_enumerate_1 _) (fun obj => F.args_object_init_2 obj _) F.entry_enumerate_new (meets_new B) ⟨h1, ?_⟩
  have hz : (s.heap.push o).objs.size = s.heap.objs.size + 1 := Heap.size_push ..
  show _ ∧ _
  rw [hz]
  have he : IsEnum ((s.heap.push o).push { cls := .type "enumerate", data := .fields #[.none, .bool false, .ref s.heap.objs.size, rawInt 0, .none, .none] }) (s.heap.objs.size + 1) s.heap.objs.size 0 .none := by
    have := Heap.get?_push_size (s.heap.push o) (o := { cls := .type "enumerate", data := .fields #[.none, .bool false, .ref s.heap.objs.size, rawInt 0, .none, .none] }) rfl
    rw [hz] at this; exact this
  exact ⟨⟨_, he, rfl⟩, h _ he (Heap.get?_push_of_some _ (Heap.get?_push_size _ B.free)) (by rw [Heap.size_push, hz]) fun b o x => Heap.get?_push_of_some _ (Heap.get?_push_of_some _ x)⟩
/-- the tuple at a, its items in new pairs with their numbers -/
def IteT (K : PySem.W.Frag) (a : Addr) : It :=
  ⟨fun i H => ∃ (xs : List V) (x : V), SqT K H a xs ∧ xs[i]? = some x, fun i H v H' => ∃ T x, v = .ref T ∧ H T = none ∧ H' = upd H T (.tup [.int (i : Nat), x]) ∧ ∀ xs, SqT K H a xs → xs[i]? = some x, fun i H => ∃ xs : List V, SqT K H a xs ∧ xs.length = i⟩
theorem tuple_inj {X : Cx} {pins : List (Addr × Obj)} {σ : St} {H : Hp} {s : Shared} {a : Addr} {xs ys : List V} (I : Inv X pins σ H s) (h1 : SqT X.K H a xs) (h2 : SqT X.K H a ys) : xs = ys := by
  first
  | exact I.tuple_inj h1 h2
  | exact (I.tuple_inj h2 h1).symm
theorem turn_enumT {P : Program} {w : World} {K : PySem.W.Frag} {elts : List Expr} {kk : Nat} {tpos : Pos} (a e it : Addr) (hae : a ≠ it) (hea : e ≠ a) :
    Turn P w K (.Tuple elts kk tpos) (IteT K a) [e, it] e (fun i h => (∃ old, IsEnum h e it ((i : Nat) : Int) old) ∧ h.IsTupleIter it a i ∧ e ≠ it) where
  mem := by simp
  obj := fun i h st b hb => by
    obtain ⟨⟨old, he⟩, ⟨o, ho, hc, hd⟩, _⟩ := st
    rcases (by simpa using hb : b = e ∨ b = it) with z | z
    · rw [z]; exact ⟨_, he, fun v q => nomatch q⟩
    · rw [z]; exact ⟨o, ho, fun v q => by rw [hd] at q; cases q⟩
  keep := fun i h h' st k => let ⟨⟨old, he⟩, hi, hne⟩ := st; ⟨⟨old, k e (by simp) _ he⟩, hi.at fun o q => k it (by simp) o q, hne⟩
  item := by
    intro X hP hw hK hc i pins s σ H E I hf st hg
    subst hP hw hK
    obtain ⟨⟨old, he⟩, hit, hne⟩ := st
    obtain ⟨xs, x, hq, hx⟩ := hg
    obtain ⟨its, rv, ht, hz⟩ := I.tuple hq
    obtain ⟨u, hu, ru⟩ := rv.get hx
    have hlt : i < its.toArray.size := by simpa using (List.getElem?_eq_some_iff.mp hu).1
    have hel : e < s.heap.objs.size := Heap.lt_size he
    have hil : it < s.heap.objs.size := by obtain ⟨_, q, _⟩ := hit; exact Heap.lt_size q
    refine wpAny_pyNext_enum_itemC (Draws.tuple (A := X.A.in1) (I.ok.hd hc) it a hae its.toArray) he ⟨hit, ht⟩ hlt hne (by simp [hne, hea]) fun u' h' tk hu' ho st' hT hsz hk => ?_
    have eu : u' = u := by
      have z : its.toArray[i]? = some u' := hu'
      rw [List.getElem?_toArray, hu] at z
      exact (Option.some.inj z).symm
    subst eu
    refine ⟨_, rfl, wpAny_letOwnedTupleGo_enum (s := { s with heap := h', toks := tk + 1 }) ho fun h'' he' sb => ?_⟩
    have hT2 : h''.get? s.heap.objs.size = some { cls := .type "tuple", data := .seq #[.int i tk, u'] } := (sb.2 _ (Nat.ne_of_gt hel)).trans hT
    have new : ObjOk X.prog X.w (upd H s.heap.objs.size (.tup [.int (i : Nat), x])) h'' s.heap.objs.size (.tup [.int (i : Nat), x]) := ⟨by show 2 ≤ sizeLine; decide, [.int i tk, u'], .cons ⟨_, rfl⟩ (.cons ru .nil), ⟨_, hT2, rfl, _, rfl⟩⟩
    have I1 : Inv X pins σ (upd H s.heap.objs.size (.tup [.int (i : Nat), x])) { s with heap := h'', toks := tk + 1 } :=
      I.turnedNew (ch := [e, it]) (fun b ob hb q => (sb.2 b (fun z => hb (by simp [z]))).trans (hk b ob (fun z => hb (by simp [z])) (fun z => hb (by simp [z])) q)) hf (Nat.le_refl _) new
    refine ⟨.ref s.heap.objs.size, _, I1, rfl, ⟨_, x, rfl, I.hok.fresh (Nat.le_refl _), rfl, fun ys hy => by rw [tuple_inj I hy hq]; exact hx⟩, ⟨⟨u', ?_⟩, st'.1.at fun o q => (sb.2 it (Ne.symm hne)).trans q, hne⟩, fun b hb => ?_⟩
    · have e1 : ((i + 1 : Nat) : Int) = (i : Int) + 1 := by omega
      rw [e1]; exact he'
    · have hb' : b < s.heap.objs.size := by
        rcases (by simpa using hb : b = e ∨ b = it) with z | z
        · rw [z]; exact hel
        · rw [z]; exact hil
      rw [upd_ne (Nat.ne_of_lt hb')]
      exact (hf b hb).1
  done := by
    intro X hP hw hK hc i pins s σ H E I hf st hg
    subst hP hw hK
    obtain ⟨⟨old, he⟩, hit, hne⟩ := st
    obtain ⟨xs, hq, hx⟩ := hg
    obtain ⟨its, rv, ht, hz⟩ := I.tuple hq
    obtain ⟨f0, f1, f2, f3, f4, f5⟩ := hf it (by simp)
    have hl := rv.length
    have en : its.toArray.size = i := by simp; omega
    exact wpAny_pyNext_enum_endD (Draws.tuple (A := X.A.in1) (I.ok.hd hc) it a hae its.toArray) he (by rw [en]; exact ⟨hit, ht⟩) fun h' eb => ⟨rfl, I.turned (t' := s.toks) (fun b o hb q => eb b o hb q) f0 f1 f3 f4 f5⟩
  self := fun A i s Q E st h => let ⟨⟨_, he⟩, _⟩ := st; wpAny_pyIter_enum he h
/-- a list or a tuple -/
def iEnumA (K : PySem.W.Frag) (ta : TA) : TI := fun σ H R => ta σ H fun vs H1 => ∃ a, vs = [.ref a] ∧ ((∃ xs, SqL K H1 a xs ∧ R (Ite K a) H1) ∨ ∃ xs, SqT K H1 a xs ∧ R (IteT K a) H1)
theorem pi_enumA {X : Cx} {e : Expr} {ta : TA} {p pos tpos : Pos} {elts : List Expr} {kk : Nat} (hg : Gl X "enumerate") (hm : X.mg "enumerate" = none) (ha : PA X [e] ta) (hs : starEach [e] X.env = [(false, eval e X.env)]) :
    PI X (.Tuple elts kk tpos) (.Call (.Name "enumerate" p) [e] [] pos) (iEnumA X.K ta) := by
  refine ⟨fun pins s σ H R I h => Call_ (ld_blt I hg hm boot_enumerate (PyProof.Rows.callWith_type1 (thn (ha.run pos pins s σ H _ I h) fun us s1 ⟨vs, H1, I1, r1, q1⟩ => ?_) hs rfl))⟩
  obtain ⟨a, rfl, q1⟩ := q1
  obtain rfl : us = [Value.ref a] := by
    cases r1 with
    | cons r rr => cases rr; cases r; rfl
  have fresh : ∀ b, b = s1.heap.objs.size + 1 ∨ b = s1.heap.objs.size → FpOk X pins H1 b := fun b e' => by
    have hle : s1.heap.objs.size ≤ b := by
      rcases e' with z | z
      · rw [z]; exact Nat.le_add_right _ _
      · rw [z]; exact Nat.le_refl _
    exact I1.fpOk hle (I1.hok.fresh hle)
  rcases q1 with ⟨xs, hq, q⟩ | ⟨xs, hq, q⟩
  · obtain ⟨its, rv, p', hz⟩ := I1.list hq
    refine call_enumerate_list p'.isList fun h' he hit hsz hk => wpAny_pyIter_enum he ?_
    have I2 : Inv X pins σ H1 { s1 with heap := h' } := I1.kept (t' := s1.toks) hk
    exact ⟨s1.heap.objs.size + 1, [s1.heap.objs.size + 1, s1.heap.objs.size], _, _, H1, rfl, I2, turn_enum a (s1.heap.objs.size + 1) s1.heap.objs.size, ⟨⟨.none, he⟩, hit, Nat.succ_ne_self _⟩, fun b hb => fresh b (by simpa using hb), q⟩
  · obtain ⟨its, rv, ht, hz⟩ := I1.tuple hq
    have hlt : a < s1.heap.objs.size := by obtain ⟨_, e, _⟩ := ht; exact Heap.lt_size e
    refine call_enumT (begins_tuple a its.toArray) ht fun h' he hit hsz hk => wpAny_pyIter_enum he ?_
    have I2 : Inv X pins σ H1 { s1 with heap := h' } := I1.kept (t' := s1.toks) hk
    exact ⟨s1.heap.objs.size + 1, [s1.heap.objs.size + 1, s1.heap.objs.size], _, _, H1, rfl, I2, turn_enumT a (s1.heap.objs.size + 1) s1.heap.objs.size (Nat.ne_of_lt hlt) (Nat.ne_of_gt (Nat.lt_succ_of_lt hlt)), ⟨⟨.none, he⟩, ⟨_, hit, rfl, rfl⟩, Nat.succ_ne_self _⟩, fun b hb => fresh b (by simpa using hb), q⟩
theorem walk_enumT {K : PySem.W.Frag} {a : Addr} {xs : List V} : Walk (IteT K a) xs.length (fun H => SqT K H a xs) (YPair (fun i => some (.int (i : Nat))) (fun i => xs[i]?)) := by
  refine ⟨fun i _ hi q => ⟨xs, xs[i], q, by simp [hi]⟩, fun _ q => ⟨xs, q, rfl⟩, fun i H v H' _ q y => ?_⟩
  obtain ⟨T, x, h1, h2, h3, h4⟩ := y
  exact ⟨T, .int (i : Nat), x, h1, h2, h3, rfl, h4 xs q⟩
end Mt2
set_option Elab.async false
set_option linter.all false
set_option maxRecDepth 100000
set_option maxHeartbeats 4000000
/-! Mt: targets, what is walked, comprehensions. -/
namespace Mi
open PySem PySem.Spec PyProof.Rows L2 RZ
theorem PG.imp {X : Cx} {e : Expr} {t t' : TG} (h : PG X e t) (i : ∀ v σ H Q, t' v σ H Q → t v σ H Q) : PG X e t' := ⟨fun pins s σ H v u Q I r q => h.run pins s σ H v u Q I r (i v σ H Q q)⟩
/-- a target: data goes to its slots -/
def gT (K : PySem.W.Frag) (mg : Str → Option Value) (T : TW) (tg : Tg) : TG := fun v σ H Q => ∃ ι Z Zf δ x δ', SR K mg ι Z Zf H δ σ ∧ Rp K mg ι Z H x v ∧ tg.put x δ = some δ' ∧
  ∀ σ', SR K mg ι Z Zf H δ' σ' → (∀ vs, (∀ i ∈ tg.slots, i ∈ vs) → wipe σ' vs = wipe σ vs) → Q σ' H
theorem wipe_set {σ : L2.St} {i : Nat} {x : Option V} : ∀ {vs : List Nat}, i ∈ vs → wipe (σ.set i x) vs = wipe σ vs
  | v :: vs, h => by
    unfold wipe
    by_cases hi : i ∈ vs
    · rw [wipe_set hi]
    · have hv : i = v := by
        rcases List.mem_cons.mp h with e | e
        · exact e
        · exact absurd e hi
      subst hv
      have comm : ∀ (ws : List Nat), i ∉ ws → (wipe (σ.set i x) ws).set i none = (wipe σ ws).set i none := by
        intro ws
        induction ws with
        | nil => intro _; show (σ.set i x).set i none = σ.set i none; rw [List.set_set]
        | cons w ws ih =>
          intro hw
          simp only [List.mem_cons, not_or] at hw
          show ((wipe (σ.set i x) ws).set w none).set i none = ((wipe σ ws).set w none).set i none
          rw [List.set_comm _ _ (fun e => hw.1 e.symm), ih hw.2, List.set_comm _ _ hw.1]
      exact comm vs hi
theorem put_pair {s t : Tg} {x : D} {δ δ' : List Sl} (h : (Tg.pair s t).put x δ = some δ') : ∃ y z δ1, (x = .tup [y, z] ∨ x = .lst [y, z]) ∧ s.put y δ = some δ1 ∧ t.put z δ1 = some δ' := by
  match x, h with
  | .lst [y, z], h =>
    simp only [Tg.put, Option.bind_eq_some_iff] at h
    obtain ⟨δ1, p1, p2⟩ := h
    exact ⟨y, z, δ1, .inr rfl, p1, p2⟩
  | .tup [y, z], h =>
    simp only [Tg.put, Option.bind_eq_some_iff] at h
    obtain ⟨δ1, p1, p2⟩ := h
    exact ⟨y, z, δ1, .inl rfl, p1, p2⟩
theorem put_trip {s t u : Tg} {x : D} {δ δ' : List Sl} (h : (Tg.trip s t u).put x δ = some δ') : ∃ y z w δ1 δ2, x = .tup [y, z, w] ∧ s.put y δ = some δ1 ∧ t.put z δ1 = some δ2 ∧ u.put w δ2 = some δ' := by
  match x, h with
  | .tup [y, z, w], h =>
    simp only [Tg.put, Option.bind_eq_some_iff] at h
    obtain ⟨δ1, p1, δ2, p2, p3⟩ := h
    exact ⟨y, z, w, δ1, δ2, rfl, p1, p2, p3⟩
section
variable {X : Cx} {T : TW} {W : WX} {pos : Pos}
theorem mg_name {i : Nat} {x : Str} (hN : X.N.Nodup) (hi : X.N[i]? = some x) (hx : Loc X.env.scope x) (hf : X.fn x = true ∨ X.env.scope.names.lookup x = some .local) : PG X (.Name x pos) (gT X.K X.mg T (.name i)) :=
  PG.imp (pg_name hN hi hx hf) fun v σ H Q h => by
    obtain ⟨ι, Z, Zf, δ, x, δ', sr, r, hp, q⟩ := h
    simp only [Tg.put, Option.some.injEq] at hp
    subst hp
    exact q _ (sr.set r) fun vs hv => wipe_set (hv i (by simp [Tg.slots]))
theorem pg_or {e : Expr} {t1 t2 : TG} (h1 : PG X e t1) (h2 : PG X e t2) : PG X e (fun v σ H Q => t1 v σ H Q ∨ t2 v σ H Q) :=
  ⟨fun pins s σ H v u Q I r h => h.elim (h1.run pins s σ H v u Q I r) (h2.run pins s σ H v u Q I r)⟩
theorem mg_pair {a b : Expr} {s t : Tg} {k : Nat} (hc : X.calm = true) (ha : PG X a (gT X.K X.mg T s)) (hb : PG X b (gT X.K X.mg T t))
    (hn : (assignEach [a, b] X.env).length = 2) (hst : (assignEach [a, b] X.env).findIdx? (·.1) = none)
    (h1 : (assignEach [a, b] X.env).map (·.2) = assign a X.env :: (assignEach [b] X.env).map (·.2)) (h2 : (assignEach [b] X.env).map (·.2) = assign b X.env :: (assignEach [] X.env).map (·.2)) :
    PG X (.Tuple [a, b] k pos) (gT X.K X.mg T (.pair s t)) :=
  PG.imp (pg_or (pg_tup hc (pgs_cons ha (pgs_cons hb pgs_nil h2) h1) hn hst) (pg_lst hc (pgs_cons ha (pgs_cons hb pgs_nil h2) h1) hn hst)) fun v σ H Q h => by
    obtain ⟨ι, Z, Zf, δ, x, δ', sr, r, hp, q⟩ := h
    obtain ⟨y, z, δ1, e, p1, p2⟩ := put_pair hp
    rcases e with rfl | rfl
    rotate_left
    · obtain ⟨p, vs, rfl, h1, h2⟩ := r
      obtain ⟨u, w, rfl, r1, r2⟩ := h2.two
      refine .inr ⟨p, [u, w], rfl, SqL.of h1.1, rfl, u, [w], rfl, ι, Z, Zf, δ, y, δ1, sr, r1, p1, fun σ1 sr1 w1 => ?_⟩
      refine ⟨w, [], rfl, ι, Z, Zf, δ1, z, δ', sr1, r2, p2, fun σ2 sr2 w2 => ⟨rfl, q σ2 sr2 fun vs hv => ?_⟩⟩
      rw [w2 vs (fun i hi => hv i (by simp [Tg.slots, hi])), w1 vs (fun i hi => hv i (by simp [Tg.slots, hi]))]
    obtain ⟨p, vs, rfl, h1, h2⟩ := r
    obtain ⟨u, w, rfl, r1, r2⟩ := h2.two
    refine .inl ⟨p, [u, w], rfl, h1.sq, rfl, u, [w], rfl, ι, Z, Zf, δ, y, δ1, sr, r1, p1, fun σ1 sr1 w1 => ?_⟩
    refine ⟨w, [], rfl, ι, Z, Zf, δ1, z, δ', sr1, r2, p2, fun σ2 sr2 w2 => ⟨rfl, q σ2 sr2 fun vs hv => ?_⟩⟩
    rw [w2 vs (fun i hi => hv i (by simp [Tg.slots, hi])), w1 vs (fun i hi => hv i (by simp [Tg.slots, hi]))]
theorem mg_trip {a b c : Expr} {s t w : Tg} {k : Nat} (hc : X.calm = true) (ha : PG X a (gT X.K X.mg T s)) (hb : PG X b (gT X.K X.mg T t)) (hd : PG X c (gT X.K X.mg T w))
    (hn : (assignEach [a, b, c] X.env).length = 3) (hst : (assignEach [a, b, c] X.env).findIdx? (·.1) = none)
    (h1 : (assignEach [a, b, c] X.env).map (·.2) = assign a X.env :: (assignEach [b, c] X.env).map (·.2)) (h2 : (assignEach [b, c] X.env).map (·.2) = assign b X.env :: (assignEach [c] X.env).map (·.2))
    (h3 : (assignEach [c] X.env).map (·.2) = assign c X.env :: (assignEach [] X.env).map (·.2)) :
    PG X (.Tuple [a, b, c] k pos) (gT X.K X.mg T (.trip s t w)) :=
  PG.imp (pg_tup hc (pgs_cons ha (pgs_cons hb (pgs_cons hd pgs_nil h3) h2) h1) hn hst) fun v σ H Q h => by
    obtain ⟨ι, Z, Zf, δ, x, δ', sr, r, hp, q⟩ := h
    obtain ⟨y, z, y3, δ1, δ2, rfl, p1, p2, p3⟩ := put_trip hp
    obtain ⟨p, vs, rfl, h1, h2⟩ := r
    obtain ⟨u, vs', rfl, r1, h2⟩ := h2
    obtain ⟨u2, u3, rfl, r2, r3⟩ := Rps.two h2
    refine ⟨p, [u, u2, u3], rfl, h1.sq, rfl, u, [u2, u3], rfl, ι, Z, Zf, δ, y, δ1, sr, r1, p1, fun σ1 sr1 w1 => ?_⟩
    refine ⟨u2, [u3], rfl, ι, Z, Zf, δ1, z, δ2, sr1, r2, p2, fun σ2 sr2 w2 => ?_⟩
    refine ⟨u3, [], rfl, ι, Z, Zf, δ2, y3, δ', sr2, r3, p3, fun σ3 sr3 w3 => ⟨rfl, q σ3 sr3 fun vs hv => ?_⟩⟩
    rw [w3 vs (fun i hi => hv i (by simp [Tg.slots, hi])), w2 vs (fun i hi => hv i (by simp [Tg.slots, hi])), w1 vs (fun i hi => hv i (by simp [Tg.slots, hi]))]
/-- names -/
def isNm : Expr → Bool
  | .Name .. => true
  | _ => false
theorem as_names : ∀ {es : List Expr} {env : Env}, es.all isNm = true → assignEach es env = es.map fun e => (false, assign e env)
  | [], _, _ => rfl
  | e :: es, env, h => by
    rw [List.all_cons, Bool.and_eq_true] at h
    have := as_names (env := env) h.2
    cases e with
    | Name x p =>
      show (false, assign (.Name x p) env) :: assignEach es env = _
      rw [this]; rfl
    | _ => cases h.1
/-- names, one by one -/
def gM (K : PySem.W.Frag) (mg : Str → Option Value) (T : TW) (is : List Nat) : TGs := fun vs σ H Q => ∃ ι Z Zf δ ds δ', SR K mg ι Z Zf H δ σ ∧ Rps K mg ι Z H ds vs ∧ putAll is ds δ = some δ' ∧
  ∀ σ', SR K mg ι Z Zf H δ' σ' → (∀ vs, (∀ i ∈ is, i ∈ vs) → wipe σ' vs = wipe σ vs) → Q σ' H
theorem PGs.imp {es : List Expr} {t t' : TGs} (h : PGs X es t) (i : ∀ v σ H Q, t' v σ H Q → t v σ H Q) : PGs X es t' := ⟨fun pins s σ H v u Q I r q => h.run pins s σ H v u Q I r (i v σ H Q q)⟩
theorem mgs_many : ∀ {es : List Expr} {is : List Nat}, es.all isNm = true → Paired (fun e i => PG X e (gT X.K X.mg T (.name i))) es is → PGs X es (gM X.K X.mg T is)
  | [], [], _, _ => PGs.imp pgs_nil fun vs σ H Q h => by
    obtain ⟨ι, Z, Zf, δ, ds, δ', sr, r, hp, q⟩ := h
    cases ds with
    | nil => cases hp; exact ⟨r, q σ sr fun _ _ => rfl⟩
    | cons d ds => cases hp
  | e :: es, i :: is, hn, .cons h t => by
    have hn2 := hn
    rw [List.all_cons, Bool.and_eq_true] at hn2
    refine PGs.imp (pgs_cons h (mgs_many hn2.2 t) (by rw [as_names hn, as_names hn2.2]; rfl)) fun vs σ H Q h => ?_
    obtain ⟨ι, Z, Zf, δ, ds, δ', sr, r, hp, q⟩ := h
    cases ds with
    | nil => cases hp
    | cons d ds =>
      obtain ⟨v, vs', rfl, r1, r2⟩ := r
      refine ⟨v, vs', rfl, ι, Z, Zf, δ, d, δ.set i (.d d), sr, r1, rfl, fun σ1 sr1 w1 => ?_⟩
      refine ⟨ι, Z, Zf, δ.set i (.d d), ds, δ', sr1, r2, hp, fun σ2 sr2 w2 => q σ2 sr2 fun ws hws => ?_⟩
      rw [w2 ws fun j hj => hws j (List.mem_cons_of_mem _ hj), w1 ws fun j hj => hws j ?_]
      have : j = i := by simpa [Tg.slots] using hj
      rw [this]; exact List.mem_cons_self
theorem putAll_len : ∀ {is : List Nat} {ds : List D} {δ δ' : List Sl}, putAll is ds δ = some δ' → is.length = ds.length
  | [], [], _, _, _ => rfl
  | i :: is, d :: ds, δ, δ', h => by simp [putAll_len (show putAll is ds _ = some δ' from h)]
  | [], _ :: _, _, _, h => by cases h
  | _ :: _, [], _, _, h => by cases h
theorem mg_many {es : List Expr} {is : List Nat} {k : Nat} (hc : X.calm = true) (hn : es.all isNm = true) (hp : Paired (fun e i => PG X e (gT X.K X.mg T (.name i))) es is) : PG X (.Tuple es k pos) (gT X.K X.mg T (.many is)) :=
  PG.imp (pg_tup (n := es.length) hc (mgs_many hn hp) (by rw [as_names hn, List.length_map]) (by rw [as_names hn, List.findIdx?_eq_none_iff]; intro x hx; obtain ⟨e, _, rfl⟩ := List.mem_map.mp hx; rfl)) fun v σ H Q h => by
    obtain ⟨ι, Z, Zf, δ, x, δ', sr, r, hput, q⟩ := h
    cases x with
    | tup ds =>
      obtain ⟨a, vs, rfl, h1, h2⟩ := r
      refine ⟨a, vs, rfl, h1.sq, ?_, ι, Z, Zf, δ, ds, δ', sr, h2, hput, q⟩
      rw [← h2.length, ← putAll_len hput]
      exact (Paired.length hp).symm
    | _ => cases hput
end
/-! ### what is walked -/
/-- J walks the data xs, from the heap H on, while what is at ι and Z may change -/
def WK (K : PySem.W.Frag) (mg : Str → Option Value) (J : L2.It) (xs : List D) (ι Z : List Addr) (H : Hp) : Prop := ∃ (G : Hp → Prop) (Y : Nat → Hp → V → Hp → Prop), L2.Walk J xs.length G Y ∧
  (∀ ι2 Zf H2, Ext ι Zf H ι2 H2 → (∀ z ∈ Zf, z ∈ Z) → G H2) ∧
  (∀ i d ι2 Zf Z2 H2 H3 x, xs[i]? = some d → Ext ι Zf H ι2 H2 → (∀ z ∈ Zf, z ∈ Z) → (∀ z ∈ Z2, z ∈ Z ∨ H z = none) → Y i H2 x H3 → (H3 = H2 ∨ ∃ p o, H2 p = none ∧ H3 = upd H2 p o) ∧ Rp K mg ι2 Z2 H3 d x)
theorem ext_all {K : PySem.W.Frag} {mg : Str → Option Value} {ι Z ι2 Zf Z2 : List Addr} {H H2 : Hp} {ds : List D} {vs : List V} (h : Rps K mg ι Z H ds vs) (e : Ext ι Zf H ι2 H2) (hf : ∀ z ∈ Zf, z ∈ Z) (hz : ∀ z ∈ Z2, z ∈ Z ∨ H z = none) : Rps K mg ι2 Z2 H2 ds vs := Rps.ext e hf hz ds vs h
theorem wk_tup {K : PySem.W.Frag} {mg : Str → Option Value} {ι Z : List Addr} {H : Hp} {a : Addr} {ds : List D} {vs : List V} (h1 : TupAt K H a vs) (h2 : Rps K mg ι Z H ds vs) : WK K mg (Itt K a) ds ι Z H := by
  refine ⟨_, _, by rw [h2.length]; exact walk_tup (xs := vs), fun ι2 Zf H2 e _ => (h1.ext e).sq, fun i d ι2 Zf Z2 H2 H3 x hd e hf hz y => ?_⟩
  obtain ⟨rfl, y⟩ := y
  obtain ⟨v, h3, h4⟩ := (ext_all h2 e hf hz).get hd
  rw [y] at h3; cases h3
  exact ⟨.inl rfl, h4⟩
theorem wk_lst {K : PySem.W.Frag} {mg : Str → Option Value} {ι Z : List Addr} {H : Hp} {a : Addr} {ds : List D} {vs : List V} (h1 : H a = some (.lst vs) ∧ a ∉ ι ∧ a ∉ Z) (h2 : Rps K mg ι Z H ds vs) : WK K mg (Itl K a) ds ι Z H := by
  refine ⟨_, _, by rw [h2.length]; exact walk_list (xs := vs), fun ι2 Zf H2 e hf => SqL.of (e.keep a _ h1.1 h1.2.1 (fun z => h1.2.2 (hf a z)) (fun _ z => by cases z)), fun i d ι2 Zf Z2 H2 H3 x hd e hf hz y => ?_⟩
  obtain ⟨rfl, y⟩ := y
  obtain ⟨v, h3, h4⟩ := (ext_all h2 e hf hz).get hd
  rw [y] at h3; cases h3
  exact ⟨.inl rfl, h4⟩
theorem wk_rng {K : PySem.W.Frag} {mg : Str → Option Value} {ι Z : List Addr} {H : Hp} {i j : Int} : WK K mg (Itr i (j - i).toNat) (rgD i j) ι Z H := by
  have hl : (rgD i j).length = (j - i).toNat := by simp [rgD]
  refine ⟨_, _, by rw [hl]; exact walk_range, fun _ _ _ _ _ => trivial, fun n d ι2 Zf Z2 H2 H3 x hd e hf hz y => ?_⟩
  obtain ⟨rfl, rfl⟩ := y
  have hn : n < (j - i).toNat := by rw [← hl]; exact (List.getElem?_eq_some_iff.mp hd).1
  simp only [rgD, List.getElem?_map, List.getElem?_range hn, Option.map_some, Option.some.injEq] at hd
  subst hd
  exact ⟨.inl rfl, rfl⟩
theorem pair_at {K : PySem.W.Frag} {mg : Str → Option Value} {ι Z : List Addr} {H : Hp} {p : Addr} {x y : D} {v w : V} (hp : H p = none) (h1 : Rp K mg ι Z H x v) (h2 : Rp K mg ι Z H y w) : Rp K mg ι Z (upd H p (.tup [v, w])) (.tup [x, y]) (.ref p) :=
  Rp.newT hp ⟨v, [w], rfl, h1, w, [], rfl, h2, rfl⟩
theorem wk_zipT {K : PySem.W.Frag} {mg : Str → Option Value} {ι Z : List Addr} {H : Hp} {a b : Addr} {ds es : List D} {vs ws : List V} (h1 : TupAt K H a vs) (h2 : Rps K mg ι Z H ds vs) (h3 : TupAt K H b ws) (h4 : Rps K mg ι Z H es ws) : WK K mg (ItzT K a b) (zipD ds es) ι Z H := by
  have hl : (zipD ds es).length = min vs.length ws.length := by simp [zipD, h2.length, h4.length]
  refine ⟨fun H => SqT K H a vs ∧ SqT K H b ws, YPair (fun i => vs[i]?) (fun i => ws[i]?), ?_, fun ι2 Zf H2 e _ => ⟨(h1.ext e).sq, (h3.ext e).sq⟩, fun i d ι2 Zf Z2 H2 H3 x hd e hf hz y => ?_⟩
  · rw [hl]
    refine ⟨fun i _ hi q => ?_, fun _ q => ⟨vs, ws, q.1, q.2, by omega⟩, fun i H v H' _ q y => ?_⟩
    · have h1 : i < vs.length := by omega
      have h2 : i < ws.length := by omega
      exact ⟨vs, ws, vs[i], ws[i], q.1, q.2, by simp [h1], by simp [h2]⟩
    · obtain ⟨T, x, z, h1, h2, h3, h4, h5⟩ := y
      exact ⟨T, x, z, h1, h2, h3, h4 vs q.1, h5 ws q.2⟩
  · obtain ⟨p, u, u2, rfl, hp, rfl, e1, e2⟩ := y
    simp only [zipD, List.getElem?_zipWith] at hd
    split at hd
    · rename_i x y ex ey
      cases hd
      obtain ⟨v, g1, r1⟩ := (ext_all h2 e hf hz).get ex
      obtain ⟨w, g2, r2⟩ := (ext_all h4 e hf hz).get ey
      have e1' := e1.symm.trans g1; cases e1'
      have e2' := e2.symm.trans g2; cases e2'
      exact ⟨.inr ⟨p, _, hp, rfl⟩, pair_at hp r1 r2⟩
    · cases hd
theorem wk_zipL {K : PySem.W.Frag} {mg : Str → Option Value} {ι Z : List Addr} {H : Hp} {a b : Addr} {ds es : List D} {vs ws : List V} (h1 : H a = some (.lst vs) ∧ a ∉ ι ∧ a ∉ Z) (h2 : Rps K mg ι Z H ds vs) (h3 : H b = some (.lst ws) ∧ b ∉ ι ∧ b ∉ Z) (h4 : Rps K mg ι Z H es ws) : WK K mg (Itz K a b) (zipD ds es) ι Z H := by
  have hl : (zipD ds es).length = min vs.length ws.length := by simp [zipD, h2.length, h4.length]
  refine ⟨fun H => SqL K H a vs ∧ SqL K H b ws, YPair (fun i => vs[i]?) (fun i => ws[i]?), by rw [hl]; exact walk_zip rfl,
    fun ι2 Zf H2 e hf => ⟨SqL.of (e.keep a _ h1.1 h1.2.1 (fun z => h1.2.2 (hf a z)) (fun _ z => by cases z)), SqL.of (e.keep b _ h3.1 h3.2.1 (fun z => h3.2.2 (hf b z)) (fun _ z => by cases z))⟩, fun i d ι2 Zf Z2 H2 H3 x hd e hf hz y => ?_⟩
  obtain ⟨p, u, u2, rfl, hp, rfl, e1, e2⟩ := y
  simp only [zipD, List.getElem?_zipWith] at hd
  split at hd
  · rename_i x y ex ey
    cases hd
    obtain ⟨v, g1, r1⟩ := (ext_all h2 e hf hz).get ex
    obtain ⟨w, g2, r2⟩ := (ext_all h4 e hf hz).get ey
    have e1' := e1.symm.trans g1; cases e1'
    have e2' := e2.symm.trans g2; cases e2'
    exact ⟨.inr ⟨p, _, hp, rfl⟩, pair_at hp r1 r2⟩
  · cases hd
theorem wk_enumL {K : PySem.W.Frag} {mg : Str → Option Value} {ι Z : List Addr} {H : Hp} {a : Addr} {ds : List D} {vs : List V} (h1 : H a = some (.lst vs) ∧ a ∉ ι ∧ a ∉ Z) (h2 : Rps K mg ι Z H ds vs) : WK K mg (Ite K a) (enumD ds) ι Z H := by
  have hl : (enumD ds).length = vs.length := by simp [enumD, h2.length]
  refine ⟨_, _, by rw [hl]; exact walk_enum (xs := vs), fun ι2 Zf H2 e hf => SqL.of (e.keep a _ h1.1 h1.2.1 (fun z => h1.2.2 (hf a z)) (fun _ z => by cases z)), fun i d ι2 Zf Z2 H2 H3 x hd e hf hz y => ?_⟩
  obtain ⟨p, u, u2, rfl, hp, rfl, e1, e2⟩ := y
  simp only [enumD, List.getElem?_zipWith] at hd
  split at hd
  · rename_i n y ex ey
    cases hd
    have hi : i < ds.length := (List.getElem?_eq_some_iff.mp ey).1
    rw [List.getElem?_range hi] at ex
    cases ex
    obtain ⟨w, g2, r2⟩ := (ext_all h2 e hf hz).get ey
    have e2' := e2.symm.trans g2; cases e2'
    cases e1
    exact ⟨.inr ⟨p, _, hp, rfl⟩, pair_at hp (show Rp K mg ι2 Z2 H2 (.int i) (.int i) from rfl) r2⟩
  · cases hd
theorem wk_enumT {K : PySem.W.Frag} {mg : Str → Option Value} {ι Z : List Addr} {H : Hp} {a : Addr} {ds : List D} {vs : List V} (h1 : TupAt K H a vs) (h2 : Rps K mg ι Z H ds vs) : WK K mg (Mt2.IteT K a) (enumD ds) ι Z H := by
  have hl : (enumD ds).length = vs.length := by simp [enumD, h2.length]
  refine ⟨_, _, by rw [hl]; exact Mt2.walk_enumT (xs := vs), fun ι2 Zf H2 e hf => (h1.ext e).sq, fun i d ι2 Zf Z2 H2 H3 x hd e hf hz y => ?_⟩
  obtain ⟨p, u, u2, rfl, hp, rfl, e1, e2⟩ := y
  simp only [enumD, List.getElem?_zipWith] at hd
  split at hd
  · rename_i n y ex ey
    cases hd
    have hi : i < ds.length := (List.getElem?_eq_some_iff.mp ey).1
    rw [List.getElem?_range hi] at ex
    cases ex
    obtain ⟨w, g2, r2⟩ := (ext_all h2 e hf hz).get ey
    have e2' := e2.symm.trans g2; cases e2'
    cases e1
    exact ⟨.inr ⟨p, _, hp, rfl⟩, pair_at hp (show Rp K mg ι2 Z2 H2 (.int i) (.int i) from rfl) r2⟩
  · cases hd
section
variable {X : Cx} {T : TW} {W : WX} {pos : Pos} {tg : Expr}
/-- a list or a tuple, walked -/
def iBoth (K : PySem.W.Frag) (tl : TE) : TI := fun σ H R => tl σ H fun x H1 => ∃ a, x = .ref a ∧ ((∃ xs, SqL K H1 a xs) ∧ R (Itl K a) H1 ∨ (∃ xs, SqT K H1 a xs) ∧ R (Itt K a) H1)
theorem pi_both {l : Expr} {tl : TE} (hl : PE X l tl) : PI X tg l (iBoth X.K tl) := by
  refine ⟨fun pins s σ H R I h => ?_⟩
  refine thn (hl.run pins s σ H _ I h) fun v s1 ⟨x, H1, I1, r1, q1⟩ => ?_
  obtain ⟨a, e, q⟩ := q1
  subst e
  cases r1
  rcases q with ⟨⟨xs, hq⟩, q⟩ | ⟨⟨xs, hq⟩, q⟩
  · obtain ⟨its, rv, p, hz⟩ := I1.list hq
    refine wpAny_pyIter_list p.isList ?_
    refine ⟨s1.heap.objs.size, [s1.heap.objs.size], _, _, H1, rfl, I1.kept (t' := s1.toks) fun b o e => Heap.get?_push_of_some _ e, turn_list a _, ⟨_, Heap.get?_push_size _ rfl, rfl, rfl⟩, fun b hb => ?_, q⟩
    have e : b = s1.heap.objs.size := by simpa using hb
    subst e
    exact I1.fpOk (Nat.le_refl _) (I1.hok.fresh (Nat.le_refl _))
  · obtain ⟨its, rv, p, hz⟩ := I1.tuple hq
    refine wpAny_pyIter_tuple (show s1.heap.IsTuple a its.toArray from p) ?_
    refine ⟨s1.heap.objs.size, [s1.heap.objs.size], _, _, H1, rfl, I1.kept (t' := s1.toks) fun b o e => Heap.get?_push_of_some _ e, turn_tuple a _, ⟨_, Heap.get?_push_size _ rfl, rfl, rfl⟩, fun b hb => ?_, q⟩
    have e : b = s1.heap.objs.size := by simpa using hb
    subst e
    exact I1.fpOk (Nat.le_refl _) (I1.hok.fresh (Nat.le_refl _))
abbrev tI (K : PySem.W.Frag) (mg : Str → Option Value) (T : TW) (W : WX) (it : It) : TI := tR K mg T W (fun ι Z H (xs : List D) (J : L2.It) => WK K mg J xs ι Z H) (evi it)
theorem PI.imp {e : Expr} {t t' : TI} (h : PI X tg e t) (i : ∀ σ H Q, t' σ H Q → t σ H Q) : PI X tg e t' := ⟨fun pins s σ H Q I q => h.run pins s σ H Q I (i σ H Q q)⟩
theorem seqD_cases {d : D} {xs : List D} (h : seqD [] d = some xs) : d = .tup xs ∨ d = .lst xs := by
  unfold seqD at h
  rcases see_cases [] d with e | ⟨n, ys, _, z, _⟩
  · rw [e] at h
    split at h <;> cases h
    · exact .inl rfl
    · exact .inr rfl
  · simp at z
theorem mi_seq {e : Expr} {ce : E} (h : PE X e (tE X.K X.mg T W ce)) : PI X tg e (tI X.K X.mg T W (.seq ce)) :=
  PI.imp (pi_both h) fun σ H R hh => by
    obtain ⟨ι, Z, Zf, μ, δ, g, sr, hp⟩ := hh
    refine ⟨ι, Z, Zf, μ, δ, g, sr, post.bind hp fun x μ1 ι1 v H1 e1 g1 r1 hp1 => ?_⟩
    unfold optR at hp1
    cases ho : seqD [] x with
    | none => rw [ho] at hp1; exact hp1.elim
    | some xs =>
      rw [ho] at hp1
      rcases seqD_cases ho with rfl | rfl
      · obtain ⟨a, vs, rfl, h1, h2⟩ := r1
        exact ⟨a, rfl, .inr ⟨⟨vs, h1.sq⟩, post.ret hp1 g1 (wk_tup h1 h2)⟩⟩
      · obtain ⟨a, vs, rfl, h1, h2⟩ := r1
        exact ⟨a, rfl, .inl ⟨⟨vs, SqL.of h1.1⟩, post.ret hp1 g1 (wk_lst h1 h2)⟩⟩
theorem mi_rng {a : Expr} {ca : E} {p : Pos} (hg : Gl X "range") (hm : X.mg "range" = none) (ha : PA X [a] (tEs X.K X.mg T W (.cons ca .nil))) (hs : starEach [a] X.env = [(false, eval a X.env)]) : PI X tg (.Call (.Name "range" p) [a] [] pos) (tI X.K X.mg T W (.rng ca)) :=
  PI.imp (pi_range1 hg hm ha hs) fun σ H R hh => by
    obtain ⟨ι, Z, Zf, μ, δ, g, sr, hp⟩ := hh
    have e : evi (.rng ca) δ μ = bindR (evs (.cons ca .nil) δ μ) fun xs μ => match xs with
      | [.int j] => if rgOk 0 j = true then retR (rgD 0 j) μ else none
      | _ => none := by
      simp only [evi, evs]
      cases ev ca δ μ with
      | none => rfl
      | some r =>
        obtain ⟨r, μ1⟩ := r
        cases r with
        | error e => rfl
        | ok d => cases d <;> rfl
    rw [e] at hp
    refine ⟨ι, Z, Zf, μ, δ, g, sr, post.bind hp fun xs μ1 ι1 vs H1 e1 g1 r1 hp1 => ?_⟩
    split at hp1
    · rename_i j
      split at hp1
      · rename_i hj
        obtain ⟨v, rfl, hv⟩ := r1.one
        have hv' : v = V.int j := hv
        subst hv'
        unfold rgOk at hj
        simp only [Bool.and_eq_true, decide_eq_true_eq] at hj
        refine ⟨j, rfl, hj.1.2, hj.2, ?_⟩
        have := wk_rng (K := X.K) (mg := X.mg) (ι := ι1) (Z := Z) (H := H1) (i := 0) (j := j)
        rw [Int.sub_zero] at this
        exact post.ret hp1 g1 this
      · exact hp1.elim
    · exact hp1.elim
theorem mi_rng2 {a b : Expr} {ca cb : E} {p : Pos} (hg : Gl X "range") (hm : X.mg "range" = none) (ha : PA X [a, b] (tEs X.K X.mg T W (.cons ca (.cons cb .nil)))) (hs : starEach [a, b] X.env = [(false, eval a X.env), (false, eval b X.env)]) (hs2 : starEach [b] X.env = [(false, eval b X.env)]) :
    PI X tg (.Call (.Name "range" p) [a, b] [] pos) (tI X.K X.mg T W (.rng2 ca cb)) :=
  PI.imp (pi_range2 hg hm ha hs hs2) fun σ H R hh => by
    obtain ⟨ι, Z, Zf, μ, δ, g, sr, hp⟩ := hh
    have e : evi (.rng2 ca cb) δ μ = bindR (evs (.cons ca (.cons cb .nil)) δ μ) fun xs μ => match xs with
      | [.int i, .int j] => if rgOk i j = true then retR (rgD i j) μ else none
      | _ => none := by
      simp only [evi, evs]
      cases ev ca δ μ with
      | none => rfl
      | some r =>
        obtain ⟨r, μ1⟩ := r
        cases r with
        | error e => rfl
        | ok d =>
          simp only [bindR]
          cases ev cb δ μ1 with
          | none => rfl
          | some r =>
            obtain ⟨r, μ2⟩ := r
            cases r with
            | error e => rfl
            | ok d2 => cases d <;> cases d2 <;> rfl
    rw [e] at hp
    refine ⟨ι, Z, Zf, μ, δ, g, sr, post.bind hp fun xs μ1 ι1 vs H1 e1 g1 r1 hp1 => ?_⟩
    split at hp1
    · rename_i i j
      split at hp1
      · rename_i hj
        obtain ⟨v, w, rfl, hv, hw⟩ := r1.two
        have hv' : v = V.int i := hv
        have hw' : w = V.int j := hw
        subst hv' hw'
        unfold rgOk at hj
        simp only [Bool.and_eq_true, decide_eq_true_eq] at hj
        exact ⟨i, j, rfl, ⟨hj.1.1.1, hj.1.1.2, hj.1.2, hj.2⟩, post.ret hp1 g1 wk_rng⟩
      · exact hp1.elim
    · exact hp1.elim
theorem mi_zip {e e2 : Expr} {c1 c2 : E} {p tpos : Pos} {elts : List Expr} {kk : Nat} (hg : Gl X "zip") (hm : X.mg "zip" = none) (ha : PA X [e, e2] (tEs X.K X.mg T W (.cons c1 (.cons c2 .nil))))
    (hs : starEach [e, e2] X.env = (false, eval e X.env) :: starEach [e2] X.env) (hpl : (backTo pos (starEach [e2] X.env)).any (·.1) = false) :
    PI X (.Tuple elts kk tpos) (.Call (.Name "zip" p) [e, e2] [] pos) (tI X.K X.mg T W (.zip c1 c2)) :=
  PI.imp (pi_zipA hg hm ha hs hpl) fun σ H R hh => by
    obtain ⟨ι, Z, Zf, μ, δ, g, sr, hp⟩ := hh
    have e : evi (.zip c1 c2) δ μ = bindR (evs (.cons c1 (.cons c2 .nil)) δ μ) fun xs μ => match xs with
      | [x, y] => optR (zipK x y) μ
      | _ => none := by
      simp only [evi, evs]
      cases ev c1 δ μ with
      | none => rfl
      | some r =>
        obtain ⟨r, μ1⟩ := r
        cases r with
        | error e => rfl
        | ok d =>
          simp only [bindR]
          cases ev c2 δ μ1 with
          | none => rfl
          | some r =>
            obtain ⟨r, μ2⟩ := r
            cases r with
            | error e => rfl
            | ok d2 => rfl
    rw [e] at hp
    refine ⟨ι, Z, Zf, μ, δ, g, sr, post.bind hp fun xs μ1 ι1 vs H1 e1 g1 r1 hp1 => ?_⟩
    split at hp1
    · rename_i x y
      obtain ⟨v, w, rfl, hv, hw⟩ := r1.two
      unfold optR at hp1
      cases ho : zipK x y with
      | none => rw [ho] at hp1; exact hp1.elim
      | some zs =>
        rw [ho] at hp1
        unfold zipK at ho
        split at ho <;> cases ho
        · obtain ⟨a, vs, rfl, h1, h2⟩ := hv
          obtain ⟨b, ws, rfl, h3, h4⟩ := hw
          exact ⟨a, b, vs, ws, rfl, .inl ⟨SqL.of h1.1, SqL.of h3.1, post.ret hp1 g1 (wk_zipL h1 h2 h3 h4)⟩⟩
        · obtain ⟨a, vs, rfl, h1, h2⟩ := hv
          obtain ⟨b, ws, rfl, h3, h4⟩ := hw
          exact ⟨a, b, vs, ws, rfl, .inr ⟨h1.sq, h3.sq, post.ret hp1 g1 (wk_zipT h1 h2 h3 h4)⟩⟩
    · exact hp1.elim
theorem mi_enum {e : Expr} {c1 : E} {p tpos : Pos} {elts : List Expr} {kk : Nat} (hg : Gl X "enumerate") (hm : X.mg "enumerate" = none) (ha : PA X [e] (tEs X.K X.mg T W (.cons c1 .nil)))
    (hs : starEach [e] X.env = [(false, eval e X.env)]) : PI X (.Tuple elts kk tpos) (.Call (.Name "enumerate" p) [e] [] pos) (tI X.K X.mg T W (.enum c1)) :=
  PI.imp (Mt2.pi_enumA hg hm ha hs) fun σ H R hh => by
    obtain ⟨ι, Z, Zf, μ, δ, g, sr, hp⟩ := hh
    have e : evi (.enum c1) δ μ = bindR (evs (.cons c1 .nil) δ μ) fun xs μ => match xs with
      | [x] => optR (enumK x) μ
      | _ => none := by
      simp only [evi, evs]
      cases ev c1 δ μ with
      | none => rfl
      | some r =>
        obtain ⟨r, μ1⟩ := r
        cases r with
        | error e => rfl
        | ok d => rfl
    rw [e] at hp
    refine ⟨ι, Z, Zf, μ, δ, g, sr, post.bind hp fun xs μ1 ι1 vs H1 e1 g1 r1 hp1 => ?_⟩
    split at hp1
    · rename_i x
      obtain ⟨v, rfl, hv⟩ := r1.one
      unfold optR at hp1
      cases ho : enumK x with
      | none => rw [ho] at hp1; exact hp1.elim
      | some zs =>
        rw [ho] at hp1
        unfold enumK at ho
        split at ho <;> cases ho
        · obtain ⟨a, vs, rfl, h1, h2⟩ := hv
          exact ⟨a, rfl, .inl ⟨vs, SqL.of h1.1, post.ret hp1 g1 (wk_enumL h1 h2)⟩⟩
        · obtain ⟨a, vs, rfl, h1, h2⟩ := hv
          exact ⟨a, rfl, .inr ⟨vs, h1.sq, post.ret hp1 g1 (wk_enumT h1 h2)⟩⟩
    · exact hp1.elim
end
/-! ### comprehensions -/
section
variable {X : Cx} {T : TW} {W : WX} {pos : Pos}
theorem SR.extZ {K : PySem.W.Frag} {mg : Str → Option Value} {ι Z Zf ι' Z' : List Addr} {H H' : Hp} {μ : List Mo} {δ : List Sl} {σ : L2.St} (g : RG K mg T ι Z H μ) (s : SR K mg ι Z Zf H δ σ) (e : Ext ι [] H ι' H') (hz : ∀ z ∈ Z', z ∈ Z ∨ H z = none) (hf : ∀ z ∈ Z, z ∈ Z') : SR K mg ι' Z' Zf H' δ σ := by
  refine ⟨s.len, fun i x hx => ?_, s.apart, fun z h => hf z (s.sub z h)⟩
  have h := s.ok i x hx
  cases x with
  | un => trivial
  | d x => obtain ⟨v, h1, h2⟩ := h; exact ⟨v, h1, Rp.ext e (by simp) hz x v h2⟩
  | lin xs =>
    obtain ⟨a, vs, h1, h2, h3, h4⟩ := h
    exact ⟨a, vs, h1, h2, e.keep a _ h3 (g.zl a (s.sub a h2)).2 (by simp) (fun _ z => by cases z), Rps.ext e (by simp) hz _ _ h4⟩
theorem ext_updZ {ι : List Addr} {H : Hp} {z : Addr} {vs ws : List V} (h : H z = some (.lst vs)) : Ext ι [z] H ι (upd H z (.lst ws)) := by
  refine ⟨⟨[], by simp, by simp⟩, fun a o q _ n _ => ?_, fun a o q => ?_, fun a xs q => ?_⟩
  · rw [upd_ne (by simpa using n)]; exact q
  · by_cases e : a = z
    · subst e; exact ⟨_, upd_same⟩
    · exact ⟨o, by rw [upd_ne e]; exact q⟩
  · have : a ≠ z := fun e => by subst e; rw [h] at q; cases q
    rw [upd_ne this]; exact q
theorem RG.updZ {K : PySem.W.Frag} {mg : Str → Option Value} {ι Z : List Addr} {H : Hp} {μ : List Mo} (g : RG K mg T ι Z H μ) {z : Addr} {vs ws : List V} (hz : z ∈ Z) (h : H z = some (.lst vs)) : RG K mg T ι Z (upd H z (.lst ws)) μ := by
  have e := ext_updZ (ι := ι) (ws := ws) h
  refine ⟨g.nd, g.len, fun n m hm => ?_, fun y hy => ⟨?_, (g.zl y hy).2⟩, ?_⟩
  · obtain ⟨a, h1, h2⟩ := g.mem n m hm
    refine ⟨a, h1, h2.ext e (by simpa using hz) (fun _ q => .inl q) (upd_ne fun q => (g.zl z hz).2 ?_)⟩
    rw [← q]; exact List.mem_of_getElem? h1
  · by_cases q : y = z
    · subst q; exact ⟨ws, upd_same⟩
    · obtain ⟨us, hu⟩ := (g.zl y hy).1
      exact ⟨us, by rw [upd_ne q]; exact hu⟩
  · intro p hp
    obtain ⟨ps, h1, h2, h3⟩ := g.tabs p hp
    refine ⟨ps, ?_, h2, fun pos cv hc => ?_⟩
    · rw [upd_ne (ne_of h1 h (by simp))]; exact h1
    · obtain ⟨c, e1, e2⟩ := h3 pos cv hc
      exact ⟨c, e1, by rw [upd_ne (ne_of e2 h (by unfold LamX.CodeO; simp))]; exact e2⟩
theorem RG.weakZ {K : PySem.W.Frag} {mg : Str → Option Value} {ι Z Z' : List Addr} {H : Hp} {μ : List Mo} (g : RG K mg T ι Z H μ) (h : ∀ z ∈ Z', z ∈ Z) : RG K mg T ι Z' H μ :=
  ⟨g.nd, g.len, fun n m hm => let ⟨a, h1, h2⟩ := g.mem n m hm; ⟨a, h1, h2.ext (Zf := []) Ext.refl (by simp) (fun z q => .inl (h z q)) rfl⟩, fun z q => g.zl z (h z q), g.tabs⟩
/-- one address more that is held by one name alone -/
theorem RG.consZ {K : PySem.W.Frag} {mg : Str → Option Value} {ι Z : List Addr} {H : Hp} {μ : List Mo} (g : RG K mg T ι Z H μ) {p : Addr} {vs : List V} (hp : H p = none) : RG K mg T ι (p :: Z) (upd H p (.lst vs)) μ := by
  have g1 : RG K mg T ι Z (upd H p (.lst vs)) μ := g.fresh hp
  have e : Ext ι [] H ι (upd H p (.lst vs)) := ext_fresh hp
  refine ⟨g.nd, g.len, fun n m hm => ?_, fun z hz => ?_, g1.tabs⟩
  · obtain ⟨a, h1, h2⟩ := g.mem n m hm
    obtain ⟨u, q, _⟩ := h2.at
    refine ⟨a, h1, h2.ext e (by simp) (fun z q => ?_) (upd_ne (ne_of_none q hp))⟩
    rcases List.mem_cons.mp q with q | q
    · rw [q]; exact .inr hp
    · exact .inl q
  · rcases List.mem_cons.mp hz with q | q
    · subst q; exact ⟨⟨vs, upd_same⟩, (g.notin hp).1⟩
    · exact g1.zl z q
theorem takesF {X : Cx} : L2N.Takes X (fun _ _ _ _ => False) := fun _ _ x => by
  obtain ⟨_, _, _, _, _, _, _, _, _, _, _, _, _, _, _, _, z⟩ := x
  exact z.elim
theorem wipe_in {σ : L2.St} {i : Nat} (hl : i < σ.length) : ∀ {vs : List Nat}, i ∈ vs → (wipe σ vs)[i]? = some none
  | v :: vs, h => by
    unfold wipe
    by_cases e : v = i
    · subst e
      rw [List.getElem?_set_self (by rw [wipe_length]; exact hl)]
    · rw [List.getElem?_set_ne e]
      rcases List.mem_cons.mp h with q | q
      · exact absurd q.symm e
      · exact wipe_in hl q
theorem wipe_wipe (σ : L2.St) (vs : List Nat) : wipe (wipe σ vs) vs = wipe σ vs := by
  refine List.ext_getElem? fun i => ?_
  by_cases h : i ∈ vs
  · by_cases hl : i < σ.length
    · rw [wipe_in (by rw [wipe_length]; exact hl) h, wipe_in hl h]
    · rw [List.getElem?_eq_none (by rw [wipe_length, wipe_length]; omega), List.getElem?_eq_none (by rw [wipe_length]; omega)]
  · rw [wipe_out h]
abbrev WF : WX := fun _ _ _ _ => False
theorem noE_post {α β : Type} {K : PySem.W.Frag} {mg : Str → Option Value} {rel : List Addr → List Addr → Hp → α → β → Prop} {ι Z : List Addr} {H : Hp} {Q : β → Hp → Prop} {r : RM α} {a : α} {μ : List Mo} {W : Value → Option Addr → Hp → Prop} (e : noE r = some (a, μ)) (h : ∀ ι' b H', Ext ι [] H ι' H' → RG K mg T ι' Z H' μ → rel ι' Z H' a b → Q b H') : post K mg T rel ι Z H r Q W := by
  match r, e with
  | some (.ok a, μ), e => cases e; exact h
theorem to_comp {ct : Tg} {ci : It} {cc ce : E} {vs : List Nat} (hsl : ∀ i ∈ ct.slots, i ∈ vs) {σ : L2.St} {H : Hp} {Q : VK} (hh : tE X.K X.mg T W (.comp ce ct ci cc vs) σ H Q) :
    tLc (tI X.K X.mg T W ci) (gT X.K X.mg T ct) (tT X.K X.mg T WF cc) (tE X.K X.mg T WF ce) vs σ H Q := by
  obtain ⟨ι, Z, Zf, μ, δ, g, sr, hp⟩ := hh
  refine ⟨ι, Z, Zf, μ, δ, g, sr, post.bind hp fun xs μ1 ι1 J H1 e1 g1 wk hp1 => ?_⟩
  intro D hD
  obtain ⟨G, Y, wlk, hG, hY⟩ := wk
  have sr1 := sr.ext g e1
  have hz0 : ∀ z ∈ D :: Z, z ∈ Z ∨ H1 z = none := fun z q => by
    rcases List.mem_cons.mp q with q | q
    · rw [q]; exact .inr hD
    · exact .inl q
  have hDZ : D ∉ Z := (g1.notin hD).2
  refine lc_it wlk (fun i H2 => ∃ ι2 μ2 acc av, Ext ι1 [] H1 ι2 H2 ∧ RG X.K X.mg T ι2 (D :: Z) H2 μ2 ∧ H2 D = some (.lst av) ∧ Rps X.K X.mg ι2 (D :: Z) H2 acc av ∧ post X.K X.mg T (Rp X.K X.mg) ι1 Z H1 (compL ct (ev cc) (ev ce) (wipeS δ vs) (xs.drop i) acc μ2) Q (WS W σ))
    ⟨ι1, μ1, [], [], ext_fresh hD, g1.consZ hD, upd_same, rfl, by simpa using hp1⟩ (fun i H2 _ ⟨ι2, μ2, acc, av, e2, _⟩ => hG ι2 [] H2 e2 (by simp)) ?_ ?_
  · rintro i x H2 H3 hi ⟨ι2, μ2, acc, av, e2, g2, hD2, ra, hp2⟩ y
    obtain ⟨d, hd⟩ : ∃ d, xs[i]? = some d := ⟨xs[i], List.getElem?_eq_getElem hi⟩
    obtain ⟨hh, rd⟩ := hY i d ι2 [] (D :: Z) H2 H3 x hd e2 (by simp) hz0 y
    have st3 : Ext ι2 [] H2 ι2 H3 ∧ RG X.K X.mg T ι2 (D :: Z) H3 μ2 ∧ H3 D = some (.lst av) := by
      rcases hh with rfl | ⟨p, o, hpn, rfl⟩
      · exact ⟨Ext.refl, g2, hD2⟩
      · exact ⟨ext_fresh hpn, g2.fresh hpn, by rw [upd_ne (ne_of_none hD2 hpn)]; exact hD2⟩
    obtain ⟨e3, g3, hD3⟩ := st3
    have ed : xs.drop i = d :: xs.drop (i + 1) := by
      rw [List.drop_eq_getElem_cons hi]
      congr 1
      have := List.getElem?_eq_getElem hi
      rw [hd] at this; exact (Option.some.inj this).symm
    rw [ed] at hp2
    unfold compL at hp2
    have e13 : Ext ι1 [] H1 ι2 H3 := e2.trans0 e3
    have sr3 : SR X.K X.mg ι2 (D :: Z) Zf H3 δ σ := sr1.extZ g1 e13 hz0 (fun z q => List.mem_cons_of_mem _ q)
    cases h1 : ct.put d (wipeS δ vs) with
    | none => rw [h1] at hp2; exact hp2.elim
    | some δ1 =>
      rw [h1] at hp2
      simp only [Option.bind_some] at hp2
      cases h2 : noE (ev cc δ1 μ2) with
      | none => rw [h2] at hp2; exact hp2.elim
      | some r =>
        obtain ⟨k, μ3⟩ := r
        rw [h2] at hp2
        simp only [Option.bind_some] at hp2
        refine ⟨ι2, D :: Z, Zf, wipeS δ vs, d, δ1, sr3.wipe vs, rd, h1, fun σ2 sr4 hw => ⟨by rw [hw vs hsl]; exact wipe_wipe σ vs, ?_⟩⟩
        cases k with
        | bl k =>
          refine ⟨ι2, D :: Z, Zf, μ2, δ1, g3, sr4, ?_⟩
          have h2' : noE (evT cc δ1 μ2) = some (k, μ3) := by
            unfold evT
            match hq : ev cc δ1 μ2, h2 with
            | some (.ok (.bl k'), μ'), h2 => simp only [noE, Option.some.injEq, Prod.mk.injEq, Mi.D.bl.injEq] at h2; obtain ⟨rfl, rfl⟩ := h2; rfl
          refine noE_post h2' fun ι5 b H5 e5 g5 hb => ?_
          subst hb
          have hD5 : H5 D = some (.lst av) := e5.keep D _ hD3 (g3.zl D (List.mem_cons_self ..)).2 (by simp) (fun _ z => by cases z)
          cases k with
          | false =>
            exact iteF ⟨ι5, μ3, acc, av, e13.trans0 e5, g5, hD5, (ra.ext0 e3).ext0 e5, hp2⟩
          | true =>
            simp only at hp2
            cases h3 : noE (ev ce δ1 μ3) with
            | none => rw [h3] at hp2; exact hp2.elim
            | some r =>
              obtain ⟨q, μ4⟩ := r
              rw [h3] at hp2
              simp only [Option.bind_some] at hp2
              split at hp2
              · rename_i hl
                refine iteT ⟨ι5, D :: Z, Zf, μ3, δ1, g5, sr4.ext g3 e5, noE_post h3 fun ι6 y6 H6 e6 g6 r6 => ?_⟩
                have hD6 : H6 D = some (.lst av) := e6.keep D _ hD5 (g5.zl D (List.mem_cons_self ..)).2 (by simp) (fun _ z => by cases z)
                have ra6 := ((ra.ext0 e3).ext0 e5).ext0 e6
                have eU := ext_updZ (ι := ι6) (ws := av ++ [y6]) hD6
                have sub : ∀ z ∈ [D], z ∈ D :: Z := by simp
                refine ⟨av, hD6, by rw [← ra.length]; exact hl, ι6, μ4, acc ++ [q], av ++ [y6], ?_, g6.updZ (List.mem_cons_self ..) hD6, upd_same, ?_, hp2⟩
                · exact ((e13.trans0 e5).trans0 e6).trans eU (fun z q => .inr (by rw [List.mem_singleton.mp q]; exact hD))
                · exact Rps.append (Rps.ext eU sub (fun z q => .inl q) _ _ ra6) ⟨y6, [], rfl, Rp.ext eU sub (fun z q => .inl q) _ _ r6, rfl⟩
              · exact hp2.elim
        | _ => exact hp2.elim
  · rintro H2 ⟨ι2, μ2, acc, av, e2, g2, hD2, ra, hp2⟩
    rw [List.drop_length] at hp2
    have hDι : D ∉ ι2 := (g2.zl D (List.mem_cons_self ..)).2
    exact hp2 ι2 _ H2 e2 (g2.weakZ fun z q => List.mem_cons_of_mem _ q) ⟨D, av, rfl, ⟨hD2, hDι, hDZ⟩, ra.weak fun z q => List.mem_cons_of_mem _ q⟩
theorem m_comp {elt iter : Expr} {tg : Expr} {ifs : List Expr} {scope : Scope} {own : List (Str × Nat)} {ct : Tg} {ci : It} {cc ce : E} (hc : X.calm = true) (hN : X.N.Nodup) (hi : PI X tg iter (tI X.K X.mg T W ci)) (ok : BlkOk X.N X.env.scope scope own)
    (hg : ∀ (s : Shared) (H : Hp) (C : Addr) (cl : List (Str × Addr)) (fp : List Addr), PG (X.blk s H scope (compEnvC scope cl C X.env) fp) tg (gT X.K X.mg T ct))
    (ht : ∀ (s : Shared) (H : Hp) (C : Addr) (cl : List (Str × Addr)) (fp : List Addr), PTs (X.blk s H scope (compEnvC scope cl C X.env) fp) ifs (tT X.K X.mg T WF cc))
    (he : ∀ (s : Shared) (H : Hp) (C : Addr) (cl : List (Str × Addr)) (fp : List Addr), PE (X.blk s H scope (compEnvC scope cl C X.env) fp) elt (tE X.K X.mg T WF ce)) (hs : ∀ x, foldedSetIterable iter X.env x = pure x)
    (vs : List Nat) (hvs : vs = own.map (·.2)) (hsl : ∀ i ∈ ct.slots, i ∈ vs) : PE X (.ListComp elt [⟨tg, iter, ifs, 0⟩] scope pos) (tE X.K X.mg T W (.comp ce ct ci cc vs)) :=
  PE.imp (pe_lc hc hN hi ok hg ht he hs) fun σ H Q hh => by
    rw [← hvs]
    exact to_comp hsl hh
end
end Mi
set_option Elab.async false
set_option linter.all false
set_option maxRecDepth 100000
set_option maxHeartbeats 4000000
/-! Mu: statements, a def's body. -/
namespace Mi
open PySem PySem.Spec PyProof.Rows L2 RZ
/-- the state of a body: Zf the lists that its own names hold alone, Zo those of others -/
structure SX (K : PySem.W.Frag) (mg : Str → Option Value) (T : TW) (ι Zo Zf : List Addr) (H : Hp) (μ : List Mo) (δ : List Sl) (σ : L2.St) : Prop where
  g : RG K mg T ι (Zo ++ Zf) H μ
  s : SR K mg ι (Zo ++ Zf) Zf H δ σ
  dj : ∀ z ∈ Zf, z ∉ Zo
/-- what comes of a statement -/
def pS (K : PySem.W.Frag) (mg : Str → Option Value) (T : TW) (W : WX) (r : SM) (ι Zo Zf : List Addr) (H : Hp) (D : Ends) : Prop := match r with
  | none => False
  | some (fl, δ', μ') => ∀ ι' Zf' σ' H', Ext ι Zf H ι' H' → (∀ z ∈ Zf', z ∈ Zf ∨ H z = none) → SX K mg T ι' Zo Zf' H' μ' δ' σ' → match fl with
    | .nx => D.nx σ' H'
    | .bk => D.bk σ' H'
    | .ct => D.ct σ' H'
    | .rt d => ∀ v, Rp K mg ι' (Zo ++ Zf') H' d v → D.rt v H'
    | .ex e => ∀ cv dx, XR mg e cv dx H' → W cv dx σ' H'
def tX (K : PySem.W.Frag) (mg : Str → Option Value) (T : TW) (W : WX) (f : List Sl → List Mo → SM) : TS := fun D σ H => ∃ ι Zo Zf μ δ, SX K mg T ι Zo Zf H μ δ σ ∧ pS K mg T W (f δ μ) ι Zo Zf H D
abbrev tS (K : PySem.W.Frag) (mg : Str → Option Value) (T : TW) (W : WX) (c : St) : TS := tX K mg T W (ex c)
abbrev tSs (K : PySem.W.Frag) (mg : Str → Option Value) (T : TW) (W : WX) (c : Ss) : TS := tX K mg T W (exs c)
theorem PS.imp {X : Cx} {e : Stmt} {t t' : TS} (h : PS X e t) (i : ∀ D σ H, t' D σ H → t D σ H) : PS X e t' := ⟨fun pins s σ H D I q => h.run pins s σ H D I (i D σ H q)⟩
theorem PSs.imp {X : Cx} {e : List Stmt} {t t' : TS} (h : PSs X e t) (i : ∀ D σ H, t' D σ H → t D σ H) : PSs X e t' := ⟨fun pins s σ H D I q => h.run pins s σ H D I (i D σ H q)⟩
section
variable {K : PySem.W.Frag} {mg : Str → Option Value} {T : TW} {W : WX} {ι Zo Zf ι1 Zf1 : List Addr} {H H1 : Hp} {D D' : Ends} {r : SM}
theorem pS.mono (h : pS K mg T W r ι Zo Zf H D) (e : Ext ι Zf H ι1 H1) (hz : ∀ z ∈ Zf1, z ∈ Zf ∨ H z = none) : pS K mg T W r ι1 Zo Zf1 H1 D := by
  match r, h with
  | some (fl, δ', μ'), h =>
    intro ι' Zf' σ' H' e' hz' s
    refine h ι' Zf' σ' H' (e.trans e' hz) (fun z hq => ?_) s
    rcases hz' z hq with q | q
    · exact hz z q
    · exact .inr (e.free q)
theorem pS.nx {δ : List Sl} {σ : L2.St} {μ : List Mo} (h : pS K mg T W (some (.nx, δ, μ)) ι Zo Zf H D) (s : SX K mg T ι Zo Zf H μ δ σ) : D.nx σ H := h ι Zf σ H Ext.refl (fun _ z => .inl z) s
/-- an expression first -/
theorem pS.thenE {α β : Type} {rel : List Addr → List Addr → Hp → α → β → Prop} {x : RM α} {δ : List Sl} {σ : L2.St} {μ : List Mo} {f : α → List Mo → SM} {Q : β → Hp → Prop} (h : pS K mg T W (thenE x δ f) ι Zo Zf H D) (s : SX K mg T ι Zo Zf H μ δ σ)
    (q : ∀ a μ1 ι1 b H1, Ext ι [] H ι1 H1 → rel ι1 (Zo ++ Zf) H1 a b → SX K mg T ι1 Zo Zf H1 μ1 δ σ → pS K mg T W (f a μ1) ι1 Zo Zf H1 D → Q b H1) : post K mg T rel ι (Zo ++ Zf) H x Q (WS W σ) := by
  match x, h with
  | some (.error e, μ1), h =>
    intro ι1 H1 cv dx e1 g1 xr
    exact h ι1 Zf σ H1 (e1.mono (by simp)) (fun _ z => .inl z) ⟨g1, s.s.ext s.g e1, s.dj⟩ cv dx xr
  | some (.ok a, μ1), h =>
    intro ι1 b H1 e1 g1 r1
    exact q a μ1 ι1 b H1 e1 r1 ⟨g1, s.s.ext s.g e1, s.dj⟩ (h.mono (e1.mono (by simp)) fun _ z => .inl z)
end
section
variable {X : Cx} {T : TW} {W : WX} {pos : Pos} {e : Expr} {ce : E}
theorem s_pass : PS X (.Pass pos) (tS X.K X.mg T W .pass) := PS.imp ps_pass fun D σ H h => by
  obtain ⟨ι, Zo, Zf, μ, δ, s, hp⟩ := h
  simp only [ex] at hp
  exact hp.nx s
theorem s_doc {x j pos'} : PS X (.Expr (.Constant (.str x) j pos) pos') (tS X.K X.mg T W .pass) := PS.imp ps_doc fun D σ H h => by
  obtain ⟨ι, Zo, Zf, μ, δ, s, hp⟩ := h
  simp only [ex] at hp
  exact hp.nx s
theorem s_brk : PS X (.Break pos) (tS X.K X.mg T W .brk) := PS.imp ps_break fun D σ H h => by
  obtain ⟨ι, Zo, Zf, μ, δ, s, hp⟩ := h
  simp only [ex] at hp
  exact hp ι Zf σ H Ext.refl (fun _ z => .inl z) s
theorem s_cont : PS X (.Continue pos) (tS X.K X.mg T W .cont) := PS.imp ps_continue fun D σ H h => by
  obtain ⟨ι, Zo, Zf, μ, δ, s, hp⟩ := h
  simp only [ex] at hp
  exact hp ι Zf σ H Ext.refl (fun _ z => .inl z) s
theorem s_expr (he : PE X e (tE X.K X.mg T W ce)) (hs : swapsWith e none pos.line X.env = pure false) : PS X (.Expr e pos) (tS X.K X.mg T W (.expr ce)) :=
  PS.imp (ps_expr he hs) fun D σ H h => by
    obtain ⟨ι, Zo, Zf, μ, δ, s, hp⟩ := h
    simp only [ex] at hp
    exact ⟨ι, Zo ++ Zf, Zf, μ, δ, s.g, s.s, hp.thenE s fun a μ1 ι1 b H1 e1 r1 s1 h1 => h1.nx s1⟩
theorem s_ret (he : PE X e (tE X.K X.mg T W ce)) : PS X (.Return (some e) pos) (tS X.K X.mg T W (.ret ce)) :=
  PS.imp (ps_ret he) fun D σ H h => by
    obtain ⟨ι, Zo, Zf, μ, δ, s, hp⟩ := h
    simp only [ex] at hp
    exact ⟨ι, Zo ++ Zf, Zf, μ, δ, s.g, s.s, hp.thenE s fun a μ1 ι1 b H1 e1 r1 s1 h1 => h1 ι1 Zf σ H1 Ext.refl (fun _ z => .inl z) s1 b r1⟩
theorem s_retn : PS X (.Return none pos) (tS X.K X.mg T W .retn) := PS.imp ps_retN fun D σ H h => by
  obtain ⟨ι, Zo, Zf, μ, δ, s, hp⟩ := h
  simp only [ex] at hp
  exact hp ι Zf σ H Ext.refl (fun _ z => .inl z) s .non rfl
/-- behind a target -/
theorem put_nx {ct : Tg} {x : Mi.D} {v : V} {ι Zo Zf : List Addr} {μ : List Mo} {δ : List Sl} {σ : L2.St} {H : Hp} {D : Ends} (s : SX X.K X.mg T ι Zo Zf H μ δ σ) (r : Rp X.K X.mg ι (Zo ++ Zf) H x v)
    {f : List Sl → SM} (hp : pS X.K X.mg T W ((ct.put x δ).bind f) ι Zo Zf H D) {Q : L2.St → Hp → Prop} (q : ∀ δ' σ', SX X.K X.mg T ι Zo Zf H μ δ' σ' → pS X.K X.mg T W (f δ') ι Zo Zf H D → Q σ' H) : gT X.K X.mg T ct v σ H Q := by
  cases h : ct.put x δ with
  | none => rw [h] at hp; exact hp.elim
  | some δ' =>
    rw [h] at hp
    exact ⟨ι, Zo ++ Zf, Zf, δ, x, δ', s.s, r, h, fun σ' s' _ => q δ' σ' ⟨s.g, s', s.dj⟩ hp⟩
theorem to_set {ct : Tg} {D : Ends} {σ : L2.St} {H : Hp} (h : tS X.K X.mg T W (.set ct ce) D σ H) : tAsg (tE X.K X.mg T W ce) (gT X.K X.mg T ct) D σ H := by
  obtain ⟨ι, Zo, Zf, μ, δ, s, hp⟩ := h
  simp only [ex] at hp
  exact ⟨ι, Zo ++ Zf, Zf, μ, δ, s.g, s.s, hp.thenE s fun a μ1 ι1 b H1 e1 r1 s1 h1 => put_nx s1 r1 h1 fun δ' σ' s' h' => h'.nx s'⟩
theorem s_set {tg : Expr} {ct : Tg} (he : PE X e (tE X.K X.mg T W ce)) (hg : PG X tg (gT X.K X.mg T ct)) (hs : swapsWithSole [tg] e pos.line X.env = pure false) (hw : swappedStores [tg] e X.env = pure none) (h1 : (assignEach [tg] X.env).map (·.2) = [assign tg X.env]) :
    PS X (.Assign [tg] e pos) (tS X.K X.mg T W (.set ct ce)) := PS.imp (ps_asg he hg hs hw h1) fun D σ H h => to_set h
/-- name = [..] where the comprehension stores at once -/
theorem s_setLc {i : Nat} {y : Str} {py cpos : Pos} {elt iter : Expr} {tg : Expr} {ifs : List Expr} {scope : Scope} {own : List (Str × Nat)} {ct : Tg} {ci : It} {cc ce : E} (hc : X.calm = true) (hN : X.N.Nodup) (hy : X.N[i]? = some y) (hyl : X.env.scope.names.lookup y = some .local)
    (hsw : swapsWith (.ListComp elt [⟨tg, iter, ifs, 0⟩] scope cpos) (some (.Name y py)) pos.line X.env = pure true) (hi : PI X tg iter (tI X.K X.mg T W ci)) (ok : BlkOk X.N X.env.scope scope own)
    (hg : ∀ (s : Shared) (H : Hp) (C : Addr) (cl : List (Str × Addr)) (fp : List Addr), PG (X.blk s H scope (compEnvC scope cl C X.env) fp) tg (gT X.K X.mg T ct))
    (ht : ∀ (s : Shared) (H : Hp) (C : Addr) (cl : List (Str × Addr)) (fp : List Addr), PTs (X.blk s H scope (compEnvC scope cl C X.env) fp) ifs (tT X.K X.mg T WF cc))
    (he : ∀ (s : Shared) (H : Hp) (C : Addr) (cl : List (Str × Addr)) (fp : List Addr), PE (X.blk s H scope (compEnvC scope cl C X.env) fp) elt (tE X.K X.mg T WF ce)) (hs : ∀ x, foldedSetIterable iter X.env x = pure x)
    (vs : List Nat) (hvs : vs = own.map (·.2)) (hsl : ∀ i ∈ ct.slots, i ∈ vs) : PS X (.Assign [.Name y py] (.ListComp elt [⟨tg, iter, ifs, 0⟩] scope cpos) pos) (tS X.K X.mg T W (.set (.name i) (.comp ce ct ci cc vs))) :=
  PS.imp (ps_setLc hc hN hy hyl hsw hi ok hg ht he hs) fun D σ H h => by
    rw [← hvs]
    have h2 : tE X.K X.mg T W (.comp ce ct ci cc vs) σ H fun x H1 => gName i x σ H1 D.nx := by
      obtain ⟨ι, Zo, Zf, μ, δ, s, hp⟩ := h
      simp only [ex] at hp
      refine ⟨ι, Zo ++ Zf, Zf, μ, δ, s.g, s.s, hp.thenE s fun a μ1 ι1 b H1 e1 r1 s1 h1 => ?_⟩
      simp only [Tg.put, Option.bind_some] at h1
      exact h1.nx ⟨s1.g, s1.s.set r1, s1.dj⟩
    exact to_comp hsl h2
/-- a, b = x, y stored from the right -/
theorem s_par {i j : Nat} {x y : Str} {a b : Expr} {ca : Es} {px py pt : Pos} {kt k2 pt2} (hc : X.calm = true) (hN : X.N.Nodup) (hi : X.N[i]? = some x) (hj : X.N[j]? = some y) (hij : i ≠ j)
    (hx : X.env.scope.names.lookup x = some .local) (hy : X.env.scope.names.lookup y = some .local) (ha : PA X [a, b] (tEs X.K X.mg T W ca))
    (hw : swappedStores [.Tuple [.Name x px, .Name y py] kt pt] (.Tuple [a, b] k2 pt2) X.env = pure (some [x, y]))
    (hs : swapsWithSole [.Tuple [.Name x px, .Name y py] kt pt] (.Tuple [a, b] k2 pt2) pos.line X.env = pure false) :
    PS X (.Assign [.Tuple [.Name x px, .Name y py] kt pt] (.Tuple [a, b] k2 pt2) pos) (tS X.K X.mg T W (.set (.pair (.name i) (.name j)) (.tup ca))) :=
  PS.imp (ps_par hc hN hi hj hij hx hy ha hw hs) fun D σ H h => by
    obtain ⟨ι, Zo, Zf, μ, δ, s, hp⟩ := h
    simp only [ex, ev] at hp
    refine ⟨ι, Zo ++ Zf, Zf, μ, δ, s.g, s.s, ?_⟩
    have hp2 : pS X.K X.mg T W (thenE (evs ca δ μ) δ fun xs μ => if xs.length ≤ sizeLine then ((Tg.pair (.name i) (.name j)).put (.tup xs) δ).bind fun δ => some (.nx, δ, μ) else none) ι Zo Zf H D := by
      cases h : evs ca δ μ with
      | none => rw [h] at hp; exact hp
      | some r =>
        obtain ⟨r, μ1⟩ := r
        cases r with
        | error e => rw [h] at hp; exact hp
        | ok xs =>
          rw [h] at hp
          simp only [bindR] at hp
          split at hp
          · rename_i hz; simp only [if_pos hz]; exact hp
          · exact hp.elim
    refine hp2.thenE s fun xs μ1 ι1 vs H1 e1 r1 s1 h1 => ?_
    split at h1
    · cases hq : (Tg.pair (.name i) (.name j)).put (.tup xs) δ with
      | none => rw [hq] at h1; exact h1.elim
      | some δ' =>
        obtain ⟨u, w, δ1, e, p1, p2⟩ := put_pair hq
        rcases e with e | e
        rotate_left
        · cases e
        cases e
        rw [hq] at h1
        simp only [Tg.put, Option.some.injEq] at p1 p2
        subst p1 p2
        obtain ⟨v, v', rfl, r2, r3⟩ := r1.two
        exact ⟨v, v', rfl, h1.nx ⟨s1.g, (s1.s.set r2).set r3, s1.dj⟩⟩
    · exact h1.elim
theorem s_if {c : Expr} {a b : List Stmt} {cc : E} {ca cb : Ss} (hc : PT X c (tT X.K X.mg T W cc)) (ha : PSs X a (tSs X.K X.mg T W ca)) (hb : PSs X b (tSs X.K X.mg T W cb)) : PS X (.If c a b pos) (tS X.K X.mg T W (.ite cc ca cb)) :=
  PS.imp (ps_if hc ha hb) fun D σ H h => by
    obtain ⟨ι, Zo, Zf, μ, δ, s, hp⟩ := h
    have hp2 : pS X.K X.mg T W (thenE (evT cc δ μ) δ fun k μ => if k = true then exs ca δ μ else exs cb δ μ) ι Zo Zf H D := by
      simp only [ex] at hp
      unfold evT
      cases h : ev cc δ μ with
      | none => rw [h] at hp; exact hp
      | some r =>
        obtain ⟨r, μ1⟩ := r
        cases r with
        | error e => rw [h] at hp; exact hp
        | ok d =>
          rw [h] at hp
          cases d with
          | bl k => cases k <;> exact hp
          | _ => exact hp
    refine ⟨ι, Zo ++ Zf, Zf, μ, δ, s.g, s.s, hp2.thenE s fun k μ1 ι1 k' H1 e1 r1 s1 h1 => ?_⟩
    subst r1
    cases k with
    | true => exact iteT ⟨ι1, Zo, Zf, μ1, δ, s1, h1⟩
    | false => exact iteF ⟨ι1, Zo, Zf, μ1, δ, s1, h1⟩
/-! ### blocks -/
theorem ss_nil : PSs X [] (tSs X.K X.mg T W .nil) := PSs.imp pss_nil fun D σ H h => by
  obtain ⟨ι, Zo, Zf, μ, δ, s, hp⟩ := h
  simp only [exs] at hp
  exact hp.nx s
theorem ss_cons {st : Stmt} {rest : List Stmt} {c : St} {cs : Ss} (h1 : PS X st (tS X.K X.mg T W c)) (h2 : PSs X rest (tSs X.K X.mg T W cs)) : PSs X (st :: rest) (tSs X.K X.mg T W (.cons c cs)) :=
  PSs.imp (pss_cons h1 h2) fun D σ H h => by
    obtain ⟨ι, Zo, Zf, μ, δ, s, hp⟩ := h
    simp only [exs] at hp
    refine ⟨ι, Zo, Zf, μ, δ, s, ?_⟩
    match hq : ex c δ μ, hp with
    | some (.nx, δ1, μ1), hp => exact fun ι1 Zf1 σ1 H1 e1 z1 s1 => ⟨ι1, Zo, Zf1, μ1, δ1, s1, pS.mono hp e1 z1⟩
    | some (.bk, δ1, μ1), hp => exact hp
    | some (.ct, δ1, μ1), hp => exact hp
    | some (.rt d, δ1, μ1), hp => exact hp
    | some (.ex e, δ1, μ1), hp => exact hp
/-- a list that one name alone held is given out: nobody changes it from here on -/
theorem ss_still {i : Nat} {rest : List Stmt} {cs : Ss} (h2 : PSs X rest (tSs X.K X.mg T W cs)) : PSs X rest (tSs X.K X.mg T W (.cons (.still i) cs)) :=
  PSs.imp h2 fun D σ H h => by
    obtain ⟨ι, Zo, Zf, μ, δ, s, hp⟩ := h
    simp only [exs, ex] at hp
    cases hi : δ[i]? with
    | none => rw [hi] at hp; exact hp.elim
    | some x =>
      rw [hi] at hp
      cases x with
      | lin xs =>
        obtain ⟨a, vs, h1, h2, h3, h4⟩ := s.s.ok i _ hi
        have hl : i < δ.length := (List.getElem?_eq_some_iff.mp hi).1
        have sub1 : ∀ z ∈ Zf.filter (fun z => decide (z ≠ a)), z ∈ Zf := fun z q => (List.mem_filter.mp q).1
        have sub : ∀ z ∈ Zo ++ Zf.filter (fun z => decide (z ≠ a)), z ∈ Zo ++ Zf := fun z q => by
          rcases List.mem_append.mp q with q | q
          · exact List.mem_append_left _ q
          · exact List.mem_append_right _ (sub1 z q)
        have na : a ∉ Zo ++ Zf.filter (fun z => decide (z ≠ a)) := fun q => by
          rcases List.mem_append.mp q with q | q
          · exact s.dj a h2 q
          · have := (List.mem_filter.mp q).2
            simp at this
        refine ⟨ι, Zo, Zf.filter (fun z => decide (z ≠ a)), μ, δ.set i (.d (.lst xs)), ⟨s.g.weakZ sub, ?_, fun z q => s.dj z (sub1 z q)⟩, pS.mono hp Ext.refl fun z q => .inl (sub1 z q)⟩
        refine ⟨by rw [List.length_set]; exact s.s.len, fun j y hy => ?_, fun j k ys zs b q1 q2 q3 q4 => ?_, fun z q => List.mem_append_right _ q⟩
        · by_cases e : i = j
          · subst e
            rw [List.getElem?_set_self hl] at hy
            cases hy
            exact ⟨.ref a, h1, a, vs, rfl, ⟨h3, (s.g.zl a (List.mem_append_right _ h2)).2, na⟩, h4.weak sub⟩
          · rw [List.getElem?_set_ne e] at hy
            have hj := s.s.ok j y hy
            cases y with
            | un => trivial
            | d x => obtain ⟨v, e1, e2⟩ := hj; exact ⟨v, e1, e2.weak sub⟩
            | lin ys =>
              obtain ⟨b, ws, e1, e2, e3, e4⟩ := hj
              refine ⟨b, ws, e1, List.mem_filter.mpr ⟨e2, decide_eq_true fun q => ?_⟩, e3, e4.weak sub⟩
              subst q
              exact e (s.s.apart i j xs ys b hi hy h1 e1)
        · have nj : ∀ (j : Nat) (ys : List Mi.D), (δ.set i (Sl.d (.lst xs)))[j]? = some (Sl.lin ys) → δ[j]? = some (Sl.lin ys) := fun j ys hj => by
            by_cases e : i = j
            · subst e
              rw [List.getElem?_set_self hl] at hj
              cases hj
            · rw [List.getElem?_set_ne e] at hj
              exact hj
          exact s.s.apart j k ys zs b (nj j ys q1) (nj k zs q2) q3 q4
      | _ => exact hp.elim
/-! ### loops -/
theorem SX.fresh {K : PySem.W.Frag} {mg : Str → Option Value} {ι Zo Zf : List Addr} {H : Hp} {μ : List Mo} {δ : List Sl} {σ : L2.St} (s : SX K mg T ι Zo Zf H μ δ σ) {p : Addr} {o : HO} (hp : H p = none) : SX K mg T ι Zo Zf (upd H p o) μ δ σ :=
  ⟨s.g.fresh hp, s.s.ext s.g (ext_fresh hp), s.dj⟩
theorem s_for {tg iter : Expr} {body : List Stmt} {ct : Tg} {ci : It} {cb : Ss} (hp : PassesOwn (model X.prog X.w) X.A X.env X.xe) (hc : X.calm = true) (hi : PI X tg iter (tI X.K X.mg T W ci)) (hg : PG X tg (gT X.K X.mg T ct)) (hb : PSs X body (tSs X.K X.mg T W cb))
    (hs : ∀ x, foldedSetIterable iter X.env x = pure x) : PS X (.For tg iter body [] pos) (tS X.K X.mg T W (.for_ ct ci cb)) :=
  PS.imp (ps_for hp hc hi hg hb hs) fun D σ H h => by
    obtain ⟨ι, Zo, Zf, μ, δ, s, hp⟩ := h
    simp only [ex] at hp
    refine ⟨ι, Zo ++ Zf, Zf, μ, δ, s.g, s.s, hp.thenE s fun xs μ1 ι1 J H1 e1 wk s1 h1 => ?_⟩
    obtain ⟨G, Y, wlk, hG, hY⟩ := wk
    have sub : ∀ z ∈ Zf, z ∈ Zo ++ Zf := fun z q => List.mem_append_right _ q
    refine for_it wlk (fun i σ2 H2 => ∃ ι2 Zf2 μ2 δ2, Ext ι1 Zf H1 ι2 H2 ∧ (∀ z ∈ Zf2, z ∈ Zf ∨ H1 z = none) ∧ SX X.K X.mg T ι2 Zo Zf2 H2 μ2 δ2 σ2 ∧ pS X.K X.mg T W (forL ct (exs cb) (xs.drop i) δ2 μ2) ι2 Zo Zf2 H2 D)
      ⟨ι1, Zf, μ1, δ, Ext.refl, fun _ z => .inl z, s1, by simpa using h1⟩ (fun i σ2 H2 _ ⟨ι2, Zf2, μ2, δ2, e2, _⟩ => hG ι2 Zf H2 e2 sub) ?_ ?_
    · rintro i x σ2 H2 H3 hi ⟨ι2, Zf2, μ2, δ2, e2, z2, s2, hp2⟩ y
      obtain ⟨d, hd⟩ : ∃ d, xs[i]? = some d := ⟨xs[i], List.getElem?_eq_getElem hi⟩
      have hz : ∀ z ∈ Zo ++ Zf2, z ∈ Zo ++ Zf ∨ H1 z = none := fun z q => by
        rcases List.mem_append.mp q with q | q
        · exact .inl (List.mem_append_left _ q)
        · rcases z2 z q with q | q
          · exact .inl (List.mem_append_right _ q)
          · exact .inr q
      obtain ⟨hh, rd⟩ := hY i d ι2 Zf (Zo ++ Zf2) H2 H3 x hd e2 sub hz y
      have st3 : Ext ι2 [] H2 ι2 H3 ∧ SX X.K X.mg T ι2 Zo Zf2 H3 μ2 δ2 σ2 := by
        rcases hh with rfl | ⟨p, o, hpn, rfl⟩
        · exact ⟨Ext.refl, s2⟩
        · exact ⟨ext_fresh hpn, s2.fresh hpn⟩
      obtain ⟨e3, s3⟩ := st3
      have ed : xs.drop i = d :: xs.drop (i + 1) := by
        rw [List.drop_eq_getElem_cons hi]
        congr 1
        have := List.getElem?_eq_getElem hi
        rw [hd] at this; exact (Option.some.inj this).symm
      rw [ed] at hp2
      unfold forL at hp2
      have hp3 := pS.mono hp2 (e3.mono (by simp)) (fun _ z => .inl z)
      refine put_nx s3 rd hp3 fun δ3 σ3 s4 hp4 => ?_
      refine ⟨ι2, Zo, Zf2, μ2, δ3, s4, ?_⟩
      have e13 : Ext ι1 Zf H1 ι2 H3 := e2.trans0 e3
      have again : ∀ {δ4 : List Sl} {μ4 : List Mo} {ι4 : List Addr} {Zf4 : List Addr} {σ4 : L2.St} {H4 : Hp}, Ext ι2 Zf2 H3 ι4 H4 → (∀ z ∈ Zf4, z ∈ Zf2 ∨ H3 z = none) → SX X.K X.mg T ι4 Zo Zf4 H4 μ4 δ4 σ4 → pS X.K X.mg T W (forL ct (exs cb) (xs.drop (i + 1)) δ4 μ4) ι2 Zo Zf2 H3 D →
          ∃ ι2 Zf2 μ2 δ2, Ext ι1 Zf H1 ι2 H4 ∧ (∀ z ∈ Zf2, z ∈ Zf ∨ H1 z = none) ∧ SX X.K X.mg T ι2 Zo Zf2 H4 μ2 δ2 σ4 ∧ pS X.K X.mg T W (forL ct (exs cb) (xs.drop (i + 1)) δ2 μ2) ι2 Zo Zf2 H4 D := fun e4 z4 s4 h4 =>
        ⟨_, _, _, _, e13.trans e4 z2, fun z q => by
          rcases z4 z q with q | q
          · exact z2 z q
          · exact .inr (e13.free q), s4, pS.mono h4 e4 z4⟩
      match hq : exs cb δ3 μ2, hp4 with
      | some (.nx, δ4, μ4), hp4 => exact fun ι4 Zf4 σ4 H4 e4 z4 s4 => again e4 z4 s4 hp4
      | some (.ct, δ4, μ4), hp4 => exact fun ι4 Zf4 σ4 H4 e4 z4 s4 => again e4 z4 s4 hp4
      | some (.bk, δ4, μ4), hp4 => exact hp4
      | some (.rt d, δ4, μ4), hp4 => exact hp4
      | some (.ex e, δ4, μ4), hp4 => exact hp4
    · rintro σ2 H2 ⟨ι2, Zf2, μ2, δ2, e2, z2, s2, hp2⟩
      rw [List.drop_length] at hp2
      exact hp2.nx s2
theorem s_while {c : Expr} {body : List Stmt} {cc : E} {cb : Ss} {n : Nat} (hp : PassesOwn (model X.prog X.w) X.A X.env X.xe) (hc : PT X c (tT X.K X.mg T W cc)) (hb : PSs X body (tSs X.K X.mg T W cb)) : PS X (.While c body [] pos) (tS X.K X.mg T W (.while_ n cc cb)) :=
  PS.imp (ps_while hp hc hb) fun D σ H h => by
    obtain ⟨ι, Zo, Zf, μ, δ, s, hp⟩ := h
    simp only [ex] at hp
    refine ⟨fun m σ H => ∃ ι Zo Zf μ δ, SX X.K X.mg T ι Zo Zf H μ δ σ ∧ pS X.K X.mg T W (whileL (ev cc) (exs cb) m δ μ) ι Zo Zf H D, ⟨n, ι, Zo, Zf, μ, δ, s, hp⟩, ?_⟩
    rintro m σ H ⟨ι, Zo, Zf, μ, δ, s, hp⟩
    cases m with
    | zero => exact hp.elim
    | succ m =>
      have hp2 : pS X.K X.mg T W (thenE (evT cc δ μ) δ fun k μ => if k = true then (match exs cb δ μ with
        | some (.nx, δ, μ) => whileL (ev cc) (exs cb) m δ μ
        | some (.ct, δ, μ) => whileL (ev cc) (exs cb) m δ μ
        | some (.bk, δ, μ) => some (.nx, δ, μ)
        | r => r) else some (.nx, δ, μ)) ι Zo Zf H D := by
        unfold whileL at hp
        unfold evT
        cases h : ev cc δ μ with
        | none => rw [h] at hp; exact hp
        | some r =>
          obtain ⟨r, μ1⟩ := r
          cases r with
          | error e => rw [h] at hp; exact hp
          | ok d =>
            rw [h] at hp
            cases d with
            | bl k => cases k <;> exact hp
            | _ => exact hp
      refine ⟨ι, Zo ++ Zf, Zf, μ, δ, s.g, s.s, hp2.thenE s fun k μ1 ι1 k' H1 e1 r1 s1 h1 => ?_⟩
      subst r1
      cases k with
      | false => exact iteF (h1.nx s1)
      | true =>
        refine iteT ⟨fun σ' H' => ∃ ι Zo Zf μ δ, SX X.K X.mg T ι Zo Zf H' μ δ σ' ∧ pS X.K X.mg T W (whileL (ev cc) (exs cb) m δ μ) ι Zo Zf H' D, fun σ' H' q => ⟨m, Nat.lt_succ_self _, q⟩, ι1, Zo, Zf, μ1, δ, s1, ?_⟩
        match hq : exs cb δ μ1, h1 with
        | some (.nx, δ4, μ4), hp4 => exact fun ι4 Zf4 σ4 H4 e4 z4 s4 => ⟨ι4, Zo, Zf4, μ4, δ4, s4, pS.mono hp4 e4 z4⟩
        | some (.ct, δ4, μ4), hp4 => exact fun ι4 Zf4 σ4 H4 e4 z4 s4 => ⟨ι4, Zo, Zf4, μ4, δ4, s4, pS.mono hp4 e4 z4⟩
        | some (.bk, δ4, μ4), hp4 => exact hp4
        | some (.rt d, δ4, μ4), hp4 => exact hp4
        | some (.ex e, δ4, μ4), hp4 => exact hp4
/-! ### raise, stores -/
theorem s_raise {c : Str} {C : Addr} {e : Expr} (hc : X.calm = true) (tk : L2N.Takes X W) (hm : X.mg c = some (.ref C)) (he : L2N.PMk X e (fun _ H Q => Q (.ref C) none H)) : PS X (.Raise (some e) none pos) (tS X.K X.mg T W (.raise c)) :=
  PS.imp (L2N.ps_raise hc tk he) fun D σ H h => by
    obtain ⟨ι, Zo, Zf, μ, δ, s, hp⟩ := h
    simp only [ex] at hp
    exact hp ι Zf σ H Ext.refl (fun _ z => .inl z) s _ _ ⟨⟨C, hm, rfl⟩, rfl⟩
theorem nodup_at : ∀ {N : List Addr} {i j : Nat} {x : Addr}, N.Nodup → N[i]? = some x → N[j]? = some x → i = j
  | [], _, _, _, _, h, _ => by simp at h
  | n :: N, 0, 0, _, _, _, _ => rfl
  | n :: N, 0, j + 1, x, hN, h1, h2 => by
    simp at h1 h2
    subst h1
    exact absurd (List.mem_of_getElem? h2) (List.nodup_cons.mp hN).1
  | n :: N, i + 1, 0, x, hN, h1, h2 => by
    simp at h1 h2
    subst h2
    exact absurd (List.mem_of_getElem? h1) (List.nodup_cons.mp hN).1
  | n :: N, i + 1, j + 1, x, hN, h1, h2 => by
    simp at h1 h2
    rw [nodup_at (List.nodup_cons.mp hN).2 h1 h2]
theorem PSet.or {X : Cx} {t t' : TSet} (h : PSet X t) (h' : PSet X t') : PSet X (fun o i v H Q => t o i v H Q ∨ t' o i v H Q) := by
  intro pins s σ H o i v ov iv u Q I ro ri rv hh
  rcases hh with hh | hh
  · exact h pins s σ H o i v ov iv u Q I ro ri rv hh
  · exact h' pins s σ H o i v ov iv u Q I ro ri rv hh
/-- a changeable list has another item -/
theorem RG.setL {K : PySem.W.Frag} {mg : Str → Option Value} {ι Z : List Addr} {H : Hp} {μ : List Mo} (g : RG K mg T ι Z H μ) {n : Nat} {a : Addr} {xs ys : List Mi.D} {vs ws : List V} (hm : μ[n]? = some (.lst xs)) (ha : ι[n]? = some a) (h : H a = some (.lst vs)) (r : Rps K mg ι Z H ys ws) :
    RG K mg T ι Z (upd H a (.lst ws)) (μ.set n (.lst ys)) ∧ Ext ι [] H ι (upd H a (.lst ws)) := by
  have hin : a ∈ ι := List.mem_of_getElem? ha
  have e : Ext ι [] H ι (upd H a (.lst ws)) := by
    refine ⟨⟨[], by simp, by simp⟩, fun b o q n _ _ => ?_, fun b o q => ?_, fun b us q => ?_⟩
    · rw [upd_ne (fun z => by subst z; exact n hin)]; exact q
    · by_cases z : b = a
      · subst z; exact ⟨_, upd_same⟩
      · exact ⟨o, by rw [upd_ne z]; exact q⟩
    · have : b ≠ a := fun z => by subst z; rw [h] at q; cases q
      rw [upd_ne this]; exact q
  have hnl : n < μ.length := (List.getElem?_eq_some_iff.mp hm).1
  refine ⟨⟨g.nd, by rw [List.length_set]; exact g.len, fun k m hk => ?_, fun z hz => ⟨?_, (g.zl z hz).2⟩, ?_⟩, e⟩
  · by_cases q : n = k
    · subst q
      rw [List.getElem?_set_self hnl] at hk
      cases hk
      exact ⟨a, ha, ws, upd_same, r.ext0 e⟩
    · rw [List.getElem?_set_ne q] at hk
      obtain ⟨b, h1, h2⟩ := g.mem k m hk
      refine ⟨b, h1, h2.ext (Zf := []) e (by simp) (fun _ z => .inl z) (upd_ne fun z => q ?_)⟩
      subst z
      exact nodup_at g.nd ha h1
  · obtain ⟨us, hu⟩ := (g.zl z hz).1
    exact ⟨us, by rw [upd_ne (fun q => by subst q; exact (g.zl z hz).2 hin)]; exact hu⟩
  · intro p hp
    obtain ⟨ps, h1, h2, h3⟩ := g.tabs p hp
    refine ⟨ps, ?_, h2, fun pos cv hc => ?_⟩
    · rw [upd_ne (ne_of h1 h (by simp))]; exact h1
    · obtain ⟨c, e1, e2⟩ := h3 pos cv hc
      exact ⟨c, e1, by rw [upd_ne (ne_of e2 h (by unfold LamX.CodeO; simp))]; exact e2⟩
/-- a changeable dict has another value -/
theorem RG.setD {K : PySem.W.Frag} {mg : Str → Option Value} {ι Z : List Addr} {H : Hp} {μ : List Mo} (g : RG K mg T ι Z H μ) {n : Nat} {a : Addr} {ks : List (Str × Mi.D)} {m : List (Str × Mi.D)} {kv0 : List (Key × V)} {ws : List V} (hm : μ[n]? = some (.dct ks)) (ha : ι[n]? = some a) (h : H a = some (.dK kv0)) (r : Rps K mg ι Z H (m.map (·.2)) ws) :
    RG K mg T ι Z (upd H a (.dK ((m.map kS).zip ws))) (μ.set n (.dct m)) ∧ Ext ι [] H ι (upd H a (.dK ((m.map kS).zip ws))) := by
  have hin : a ∈ ι := List.mem_of_getElem? ha
  have e : Ext ι [] H ι (upd H a (.dK ((m.map kS).zip ws))) := by
    refine ⟨⟨[], by simp, by simp⟩, fun b o q n _ _ => ?_, fun b o q => ?_, fun b us q => ?_⟩
    · rw [upd_ne (fun z => by subst z; exact n hin)]; exact q
    · by_cases z : b = a
      · subst z; exact ⟨_, upd_same⟩
      · exact ⟨o, by rw [upd_ne z]; exact q⟩
    · have : b ≠ a := fun z => by subst z; rw [h] at q; cases q
      rw [upd_ne this]; exact q
  have hnl : n < μ.length := (List.getElem?_eq_some_iff.mp hm).1
  refine ⟨⟨g.nd, by rw [List.length_set]; exact g.len, fun k m hk => ?_, fun z hz => ⟨?_, (g.zl z hz).2⟩, ?_⟩, e⟩
  · by_cases q : n = k
    · subst q
      rw [List.getElem?_set_self hnl] at hk
      cases hk
      exact ⟨a, ha, ws, upd_same, r.ext0 e⟩
    · rw [List.getElem?_set_ne q] at hk
      obtain ⟨b, h1, h2⟩ := g.mem k m hk
      refine ⟨b, h1, h2.ext (Zf := []) e (by simp) (fun _ z => .inl z) (upd_ne fun z => q ?_)⟩
      subst z
      exact nodup_at g.nd ha h1
  · obtain ⟨us, hu⟩ := (g.zl z hz).1
    exact ⟨us, by rw [upd_ne (fun q => by subst q; exact (g.zl z hz).2 hin)]; exact hu⟩
  · intro p hp
    obtain ⟨ps, h1, h2, h3⟩ := g.tabs p hp
    refine ⟨ps, ?_, h2, fun pos cv hc => ?_⟩
    · rw [upd_ne (ne_of h1 h (by simp))]; exact h1
    · obtain ⟨c, e1, e2⟩ := h3 pos cv hc
      exact ⟨c, e1, by rw [upd_ne (ne_of e2 h (by unfold LamX.CodeO; simp))]; exact e2⟩
theorem put_rel {K : PySem.W.Frag} {mg : Str → Option Value} {ι Z : List Addr} {H : Hp} {z : Str} {d : Mi.D} {v : V} (hd : Rp K mg ι Z H d v) : ∀ {kvs : List (Str × Mi.D)} {vs : List V}, Rps K mg ι Z H (kvs.map (·.2)) vs →
    ∃ ws, ((kvs.map kS).zip vs).map (fun kv => if kv.1 = (Sum.inr z : Key) then (kv.1, v) else kv) = ((putS kvs z d).map kS).zip ws ∧ Rps K mg ι Z H ((putS kvs z d).map (·.2)) ws
  | [], vs, h => ⟨[], rfl, rfl⟩
  | (k, x) :: kvs, vs, h => by
    obtain ⟨u, vs', rfl, h1, h2⟩ := h
    obtain ⟨ws, e1, e2⟩ := put_rel (z := z) hd h2
    by_cases hk : k = z
    · subst hk
      refine ⟨v :: ws, ?_, ?_⟩
      · simp only [List.map_cons, List.zip_cons_cons, putS, if_true]
        rw [e1]; rfl
      · simp only [putS, List.map_cons, if_true]
        exact ⟨v, ws, rfl, hd, e2⟩
    · have hk2 : ¬ ((Sum.inr k : Key) = Sum.inr z) := fun q => by cases q; exact hk rfl
      refine ⟨u :: ws, ?_, ?_⟩
      · simp only [List.map_cons, List.zip_cons_cons, putS, if_neg hk, if_neg hk2]
        rw [e1]; rfl
      · simp only [putS, List.map_cons, if_neg hk]
        exact ⟨u, ws, rfl, h1, e2⟩
theorem any_key {z : Str} : ∀ {kvs : List (Str × Mi.D)} {vs : List V}, kvs.length = vs.length → (kvs.lookup z).isSome = true → (((kvs.map kS).zip vs).any fun kv => decide (kv.1 = (Sum.inr z : Key))) = true
  | [], _, _, h => by cases h
  | (k, x) :: kvs, [], hl, _ => by simp at hl
  | (k, x) :: kvs, v :: vs, hl, h => by
    rw [List.map_cons, List.zip_cons_cons, List.any_cons]
    have h : (match z == k with | true => some x | false => kvs.lookup z).isSome = true := h
    cases q : (z == k) with
    | true =>
      have := beq_iff_eq.mp q
      subst this
      simp
    | false =>
      rw [q] at h
      rw [any_key (by simpa using hl) h, Bool.or_true]
theorem heap_of (oc : Obj) (hf : ∀ h : Heap, (h.push oc).get? h.objs.size = some oc) : ∀ n : Nat, ∃ h : Heap, h.objs.size = n ∧ ∀ b o, h.get? b = some o → o = oc
  | 0 => ⟨{}, rfl, fun b o e => by simp [Heap.get?] at e⟩
  | n + 1 => by
    obtain ⟨h, h1, h2⟩ := heap_of oc hf n
    refine ⟨h.push oc, by rw [Heap.size_push, h1], fun b o e => ?_⟩
    rcases Heap.get?_push_cases e with ⟨_, e⟩ | e
    · exact e
    · exact h2 b o e
/-- such a dict is no code object -/
theorem nd_code {w : World} {a c : Addr} {xs : List (NestedKey × Addr × V)} {q : Str} : NDo w a xs ≠ LamX.CodeO c q := by
  intro z
  injection z with z
  have oc : ∃ oc : Obj, oc = { cls := .type "int", data := .fields #[.none, .str q 0] } := ⟨_, rfl⟩
  obtain ⟨oc, hoc⟩ := oc
  obtain ⟨h, h1, h2⟩ := heap_of oc (fun h => Heap.get?_push_size h (by rw [hoc]; rfl)) c
  have zz := congrFun z (h.push oc)
  have right : ∃ (oc : Obj) (vs : Array Value) (t : Tok), (h.push oc).get? c = some oc ∧ oc.data = .fields vs ∧ vs[1]? = some (.str q t) := ⟨oc, #[.none, .str q 0], 0, by rw [← h1]; exact Heap.get?_push_size h (by rw [hoc]; rfl), by rw [hoc], rfl⟩
  have left : ∃ (o : Obj) (es : Array DictEntry) (ep : Nat), (h.push oc).get? a = some o ∧ o.ExactDict ∧ o.data = .dict es ep ∧ Paired (NdE w) xs es.toList := by
    have : (∃ (oc' : Obj) (vs : Array Value) (t : Tok), (h.push oc).get? c = some oc' ∧ oc'.data = .fields vs ∧ vs[1]? = some (.str q t)) := ⟨oc, #[.none, .str q 0], 0, by rw [← h1]; exact Heap.get?_push_size h (by rw [hoc]; rfl), by rw [hoc], rfl⟩
    exact zz.mpr this
  obtain ⟨o, es, ep, ho, _, hd, _⟩ := left
  have e : o = oc := by
    rcases Heap.get?_push_cases ho with ⟨_, e⟩ | e
    · exact e
    · exact h2 _ _ e
  rw [e, hoc] at hd
  cases hd
/-- a changeable dict with keys of any depth has another value -/
theorem RG.setN {K : PySem.W.Frag} {mg : Str → Option Value} {ι Z : List Addr} {H : Hp} {μ : List Mo} (g : RG K mg T ι Z H μ) {n : Nat} {a : Addr} {ks m : List (NestedKey × Mi.D)} {x0 xs : List (NestedKey × Addr × V)} (hm : μ[n]? = some (.dcn ks)) (ha : ι[n]? = some a) (h : H a = some (NDo T.w a x0)) (hs : (a == sysModules) = false) (hn : (m.map (·.1)).Nodup) (hk : Paired (NdK K H) m xs) (r : Rps K mg ι Z H (m.map (·.2)) (xs.map (·.2.2))) :
    RG K mg T ι Z (upd H a (NDo T.w a xs)) (μ.set n (.dcn m)) ∧ Ext ι [] H ι (upd H a (NDo T.w a xs)) := by
  have hin : a ∈ ι := List.mem_of_getElem? ha
  have tups : ∀ b us, H b = some (.tup us) → upd H a (NDo T.w a xs) b = some (.tup us) := fun b us q => by
    have : b ≠ a := fun z => by subst z; rw [h] at q; cases q
    rw [upd_ne this]; exact q
  have e : Ext ι [] H ι (upd H a (NDo T.w a xs)) := by
    refine ⟨⟨[], by simp, by simp⟩, fun b o q n _ _ => ?_, fun b o q => ?_, tups⟩
    · rw [upd_ne (fun z => by subst z; exact n hin)]; exact q
    · by_cases z : b = a
      · subst z; exact ⟨_, upd_same⟩
      · exact ⟨o, by rw [upd_ne z]; exact q⟩
  have hnl : n < μ.length := (List.getElem?_eq_some_iff.mp hm).1
  refine ⟨⟨g.nd, by rw [List.length_set]; exact g.len, fun k m hk => ?_, fun z hz => ⟨?_, (g.zl z hz).2⟩, ?_⟩, e⟩
  · by_cases q : n = k
    · subst q
      rw [List.getElem?_set_self hnl] at hk
      cases hk
      exact ⟨a, ha, xs, upd_same, hs, hn, NdK.mono tups ‹_›, r.ext0 e⟩
    · rw [List.getElem?_set_ne q] at hk
      obtain ⟨b, h1, h2⟩ := g.mem k m hk
      refine ⟨b, h1, h2.ext (Zf := []) e (by simp) (fun _ z => .inl z) (upd_ne fun z => q ?_)⟩
      subst z
      exact nodup_at g.nd ha h1
  · obtain ⟨us, hu⟩ := (g.zl z hz).1
    exact ⟨us, by rw [upd_ne (fun q => by subst q; exact (g.zl z hz).2 hin)]; exact hu⟩
  · intro p hp
    obtain ⟨ps, h1, h2, h3⟩ := g.tabs p hp
    refine ⟨ps, ?_, h2, fun pos cv hc => ?_⟩
    · rw [upd_ne (ne_of h1 h (by simp [NDo]))]; exact h1
    · obtain ⟨c, e1, e2⟩ := h3 pos cv hc
      exact ⟨c, e1, by rw [upd_ne (ne_of e2 h (fun z => nd_code z.symm))]; exact e2⟩
/-- d[k] = v, keys of any depth -/
def rSetN (X : Cx) (T : TW) : V → V → V → Hp → (Hp → Prop) → Prop := fun o i v H Q => ∃ ι Z μ n kvs a d x k, RG X.K X.mg T ι Z H μ ∧ o = .ref a ∧ μ[n]? = some (.dcn kvs) ∧ ι[n]? = some a ∧ nkT d = some k ∧ Rp X.K X.mg ι Z H d i ∧ Rp X.K X.mg ι Z H x v ∧ kvs.length ≤ sizeLine ∧
  ∀ H', Ext ι [] H ι H' → RG X.K X.mg T ι Z H' (μ.set n (.dcn (putN kvs k x))) → Q H'
theorem set_nd (hw : T.w = X.w) (hu : X.A.units + 9 < cLine) : PSet X (rSetN X T) := by
  intro pins s σ H o i v ov iv u Q I ro ri rv h
  obtain ⟨ι, Z, μ, n, kvs, a, d, x, k, g, rfl, hm, ha, hk, rd, rx, hz, q⟩ := h
  obtain rfl : ov = Value.ref a := ro
  refine nd_setItem hw hu I g hm ha hk rd ri rx rv hz fun xs' s' I' p r => ?_
  obtain ⟨x0, h1, h2, h3, h4, h5⟩ := nd_mem hw g hm ha
  obtain ⟨g4, e4⟩ := g.setN (m := putN kvs k x) (xs := xs') hm ha (by rw [hw]; exact h1) h2 (putN_nodup h3) p r
  rw [hw] at g4 e4
  exact ⟨_, I', q _ e4 g4⟩
theorem s_put {o i : Expr} {co ci : E} {p : Pos} (he : PE X e (tE X.K X.mg T W ce)) (ho : PE X o (tE X.K X.mg T W co)) (hi : PE X i (tE X.K X.mg T W ci)) (hs : swapsWithSole [.Subscript o i p] e pos.line X.env = pure false) (hw : swappedStores [.Subscript o i p] e X.env = pure none)
    (h1 : (assignEach [.Subscript o i p] X.env).map (·.2) = [assign (.Subscript o i p) X.env]) (ha : ∀ v, assign (.Subscript o i p) X.env v = (do
      let ov ← holding [v] (eval o X.env)
      let iv ← holding [v, ov] (eval i X.env)
      standAt p
      holding [v, ov, iv] (setItem ov iv v)
      release [v, ov, iv] [])) (hTw : T.w = X.w) (hu : X.A.units + 9 < cLine) : PS X (.Assign [.Subscript o i p] e pos) (tS X.K X.mg T W (.put co ci ce)) :=
  PS.imp (ps_asg he (pg_sub ho hi (PSet.or (PSet.or set_list (set_dict (by omega))) (set_nd (T := T) hTw hu)) ha) hs hw h1) fun D σ H h => by
    obtain ⟨ι, Zo, Zf, μ, δ, s, hp⟩ := h
    simp only [ex] at hp
    refine ⟨ι, Zo ++ Zf, Zf, μ, δ, s.g, s.s, hp.thenE s fun v μ1 ι1 v' H1 e1 r1 s1 h1 => ?_⟩
    refine ⟨ι1, Zo ++ Zf, Zf, μ1, δ, s1.g, s1.s, h1.thenE s1 fun x μ2 ι2 x' H2 e2 r2 s2 h2 => ?_⟩
    refine ⟨ι2, Zo ++ Zf, Zf, μ2, δ, s2.g, s2.s, h2.thenE s2 fun k μ3 ι3 k' H3 e3 r3 s3 h3 => ?_⟩
    unfold putD at h3
    split at h3
    · rename_i n
      split at h3
      · rename_i xs k hm
        cases hx : L2.ixN xs.length k with
        | none => rw [hx] at h3; exact h3.elim
        | some j =>
          rw [hx] at h3
          simp only [Option.map_some, Option.bind_some] at h3
          obtain ⟨a, rfl, ha⟩ := r2.ext0 e3
          obtain ⟨b, hb, vs, hv, rv⟩ := s3.g.mem n _ hm
          rw [ha] at hb; cases hb
          obtain ⟨g4, e4⟩ := s3.g.setL (ys := xs.set j v) (ws := vs.set j v') hm ha hv (rv.set j ((r1.ext0 e2).ext0 e3))
          refine .inl <| .inl ⟨a, vs, k, j, rfl, r3, hv, by rw [← rv.length]; exact hx, ?_⟩
          exact (h3.mono (e4.mono (by simp)) fun _ z => .inl z).nx ⟨g4, s3.s.ext s3.g e4, s3.dj⟩
      · rename_i kvs z hm
        split at h3
        · rename_i hc
          simp only [Bool.and_eq_true, decide_eq_true_eq] at hc
          simp only [Option.bind_some] at h3
          obtain ⟨a, rfl, ha⟩ := r2.ext0 e3
          obtain ⟨b, hb, vs, hv, rv⟩ := s3.g.mem n _ hm
          rw [ha] at hb; cases hb
          obtain ⟨ws, w1, w2⟩ := put_rel (z := z) ((r1.ext0 e2).ext0 e3) rv
          obtain ⟨g4, e4⟩ := s3.g.setD (m := putS kvs z v) (ws := ws) hm ha hv w2
          have hk' : k' = V.str z := r3
          subst hk'
          refine .inl <| .inr ⟨a, upd H3 a (.dK (((putS kvs z v).map kS).zip ws)), rfl, ?_, ?_⟩
          · have hl : kvs.length = vs.length := by have := rv.length; simpa using this
            have hput : L2.putK ((kvs.map kS).zip vs) (Sum.inr z : Key) v' = ((putS kvs z v).map kS).zip ws := by
              unfold L2.putK
              rw [any_key hl hc.2, if_pos rfl]
              exact w1
            have := L2.DPut.k (k := (Sum.inr z : Key)) (v := v') hv (by rw [List.length_zip, List.length_map, ← hl, Nat.min_self, sizeLine_eq]; omega)
            rw [hput] at this
            exact this
          · exact (h3.mono (e4.mono (by simp)) fun _ z => .inl z).nx ⟨g4, s3.s.ext s3.g e4, s3.dj⟩
        · exact h3.elim
      · rename_i kvs ds hm
        cases hk : nkT (.tup ds) with
        | none => rw [hk] at h3; exact h3.elim
        | some k =>
          rw [hk] at h3
          simp only [Option.bind_some] at h3
          split at h3
          · rename_i hz
            simp only [Option.bind_some] at h3
            obtain ⟨a, rfl, ha⟩ := r2.ext0 e3
            refine .inr ⟨ι3, Zo ++ Zf, μ3, n, kvs, a, .tup ds, v, k, s3.g, rfl, hm, ha, hk, r3, (r1.ext0 e2).ext0 e3, by rw [sizeLine_eq]; omega, fun H' e4 g4 => ?_⟩
            exact (h3.mono (e4.mono (by simp)) fun _ z => .inl z).nx ⟨g4, s3.s.ext s3.g e4, s3.dj⟩
          · exact h3.elim
      · exact h3.elim
    · exact h3.elim
/-- name = [..], a list that this name alone holds -/
theorem SX.newLin {K : PySem.W.Frag} {mg : Str → Option Value} {ι Zo Zf : List Addr} {H : Hp} {μ : List Mo} {δ : List Sl} {σ : L2.St} (s : SX K mg T ι Zo Zf H μ δ σ) {p : Addr} {i : Nat} {xs : List Mi.D} {vs : List V} (hp : H p = none) (r : Rps K mg ι (Zo ++ Zf) H xs vs) :
    SX K mg T ι Zo (p :: Zf) (upd H p (.lst vs)) μ (δ.set i (.lin xs)) (σ.set i (some (.ref p))) := by
  have e : Ext ι [] H ι (upd H p (.lst vs)) := ext_fresh hp
  have hz : ∀ z ∈ Zo ++ p :: Zf, z ∈ Zo ++ Zf ∨ H z = none := fun z q => by
    rcases List.mem_append.mp q with q | q
    · exact .inl (List.mem_append_left _ q)
    · rcases List.mem_cons.mp q with q | q
      · rw [q]; exact .inr hp
      · exact .inl (List.mem_append_right _ q)
  have nz := (s.g.notin hp)
  refine ⟨?_, ?_, fun z q => ?_⟩
  · have g1 := s.g.consZ (vs := vs) hp
    exact g1.weakZ fun z q => by
      rcases List.mem_append.mp q with q | q
      · exact List.mem_cons_of_mem _ (List.mem_append_left _ q)
      · rcases List.mem_cons.mp q with q | q
        · rw [q]; exact List.mem_cons_self ..
        · exact List.mem_cons_of_mem _ (List.mem_append_right _ q)
  · have olds : ∀ (j : Nat) (y : Sl), δ[j]? = some y → SlOk K mg ι (Zo ++ p :: Zf) (p :: Zf) (upd H p (.lst vs)) y σ[j]? := fun j y hy => by
      have h := s.s.ok j y hy
      cases y with
      | un => trivial
      | d x => obtain ⟨v, h1, h2⟩ := h; exact ⟨v, h1, Rp.ext e (by simp) hz x v h2⟩
      | lin ys =>
        obtain ⟨a, ws, h1, h2, h3, h4⟩ := h
        exact ⟨a, ws, h1, List.mem_cons_of_mem _ h2, by rw [upd_ne (ne_of_none h3 hp)]; exact h3, Rps.ext e (by simp) hz _ _ h4⟩
    refine ⟨by simp [s.s.len], fun j y hy => ?_, fun j k ys zs a h1 h2 h3 h4 => ?_, fun z q => List.mem_append_right _ q⟩
    · by_cases q : i = j
      · subst q
        have hl : i < δ.length := by
          have := (List.getElem?_eq_some_iff.mp hy).1
          simpa using this
        rw [List.getElem?_set_self hl] at hy
        cases hy
        exact ⟨p, vs, by rw [List.getElem?_set_self (by rw [← s.s.len]; exact hl)], List.mem_cons_self .., upd_same, Rps.ext e (by simp) hz _ _ r⟩
      · rw [List.getElem?_set_ne q] at hy ⊢
        exact olds j y hy
    · have notp : ∀ (j : Nat) (ys : List Mi.D), j ≠ i → (δ.set i (Sl.lin xs))[j]? = some (Sl.lin ys) → (σ.set i (some (V.ref p)))[j]? ≠ some (some (V.ref p)) := fun j ys hj hy q => by
        rw [List.getElem?_set_ne (Ne.symm hj)] at hy q
        obtain ⟨a, ws, e1, e2, e3, _⟩ := s.s.ok j _ hy
        rw [q] at e1; cases e1
        rw [hp] at e3; cases e3
      by_cases q1 : j = i
      · by_cases q2 : k = i
        · rw [q1, q2]
        · subst q1
          have hl : j < σ.length := by
            have := (List.getElem?_eq_some_iff.mp h3).1
            simpa using this
          rw [List.getElem?_set_self hl] at h3
          cases h3
          exact absurd h4 (notp k zs q2 h2)
      · by_cases q2 : k = i
        · subst q2
          have hl : k < σ.length := by
            have := (List.getElem?_eq_some_iff.mp h4).1
            simpa using this
          rw [List.getElem?_set_self hl] at h4
          cases h4
          exact absurd h3 (notp j ys q1 h1)
        · rw [List.getElem?_set_ne (Ne.symm q1)] at h1 h3
          rw [List.getElem?_set_ne (Ne.symm q2)] at h2 h4
          exact s.s.apart j k ys zs a h1 h2 h3 h4
  · rcases List.mem_cons.mp q with q | q
    · rw [q]; exact fun z => nz.2 (List.mem_append_left _ z)
    · exact s.dj z q
theorem s_lin {i : Nat} {x : Str} {es : List Expr} {ces : Es} {p p2 : Pos} (hN : X.N.Nodup) (hi : X.N[i]? = some x) (hx : Loc X.env.scope x) (hf : X.fn x = true ∨ X.env.scope.names.lookup x = some .local) (ha : PA X es (tEs X.K X.mg T W ces)) :
    PS X (.Assign [.Name x p] (.List es p2) pos) (tS X.K X.mg T W (.lin i ces)) :=
  PS.imp (ps_set hN hi hx (pe_lst ha) rfl hf) fun D σ H h => by
    obtain ⟨ι, Zo, Zf, μ, δ, s, hp⟩ := h
    simp only [ex] at hp
    refine ⟨ι, Zo ++ Zf, Zf, μ, δ, s.g, s.s, hp.thenE s fun xs μ1 ι1 vs H1 e1 r1 s1 h1 => ?_⟩
    split at h1
    · rename_i hz
      refine ⟨by rw [← r1.length]; exact hz, fun q hq => ?_⟩
      refine (h1.mono (ι1 := ι1) (Zf1 := q :: Zf) (ext_fresh (o := .lst vs) hq) fun z hz => ?_).nx (s1.newLin hq r1)
      rcases List.mem_cons.mp hz with e | e
      · rw [e]; exact .inr hq
      · exact .inl e
    · exact h1.elim
/-- name.append(e), of such a list -/
theorem s_app {i : Nat} {x : Str} {p p2 p3 : Pos} (hN : X.N[i]? = some x) (hv : Vis X.env.scope x) (hd : (x == ("__debug__" : Str)) = false) (hcd : (x == ("__classdict__" : Str)) = false) (he : PE X e (tE X.K X.mg T W ce)) (hst : starEach [e] X.env = (false, eval e X.env) :: starEach [] X.env)
    (hline : (p2.endLine == p3.line) = true) : PS X (.Expr (.Call (.Attribute (.Name x p) "append" p2) [e] [] p3) pos) (tS X.K X.mg T W (.app i ce)) :=
  PS.imp (ps_expr (pe_bm PySem.F.plainAttrs_list PySem.F.slot_list_append PySem.F.type_list_append mt_append (pe_var hN hv hd hcd) (pa_cons he pa_nil hst) rfl (by rw [hst]; rfl) hline hst rfl) rfl) fun D σ H h => by
    obtain ⟨ι, Zo, Zf, μ, δ, s, hp⟩ := h
    simp only [ex] at hp
    cases hi : δ[i]? with
    | none => rw [hi] at hp; exact hp.elim
    | some y =>
      rw [hi] at hp
      cases y with
      | lin xs =>
        obtain ⟨a, vs, h1, h2, h3, h4⟩ := s.s.ok i _ hi
        refine ⟨.ref a, h1, .inl ⟨rfl, _, SqL.of h3⟩, ι, Zo ++ Zf, Zf, μ, δ, s.g, s.s, hp.thenE s fun x μ1 ι1 v H1 e1 r1 s1 h5 => ?_⟩
        have ha : a ∈ Zo ++ Zf := List.mem_append_right _ h2
        have h6 : H1 a = some (.lst vs) := e1.keep a _ h3 (s.g.zl a ha).2 (by simp) (fun _ z => by cases z)
        split at h5
        · rename_i hz
          have eU := ext_updZ (ι := ι1) (ws := vs ++ [v]) h6
          have sub : ∀ z ∈ [a], z ∈ Zo ++ Zf := fun z q => by rw [List.mem_singleton.mp q]; exact ha
          refine ⟨a, vs, v, rfl, rfl, h6, by rw [← h4.length]; exact hz, ?_⟩
          refine (h5.mono (ι1 := ι1) (Zf1 := Zf) (eU.mono fun z q => by rw [List.mem_singleton.mp q]; exact h2) fun _ z => .inl z).nx ⟨s1.g.updZ ha h6, ?_, s1.dj⟩
          have hl : i < δ.length := (List.getElem?_eq_some_iff.mp hi).1
          refine ⟨by rw [List.length_set]; exact s1.s.len, fun j y hy => ?_, fun j k ys zs b q1 q2 q3 q4 => ?_, s1.s.sub⟩
          · by_cases q : i = j
            · subst q
              rw [List.getElem?_set_self hl] at hy
              cases hy
              exact ⟨a, vs ++ [v], h1, h2, upd_same, Rps.append (Rps.ext eU sub (fun _ z => .inl z) _ _ (h4.ext0 e1)) ⟨v, [], rfl, Rp.ext eU sub (fun _ z => .inl z) _ _ r1, rfl⟩⟩
            · rw [List.getElem?_set_ne q] at hy
              have hj := s1.s.ok j y hy
              cases y with
              | un => trivial
              | d x => obtain ⟨w, e2, e3⟩ := hj; exact ⟨w, e2, Rp.ext eU sub (fun _ z => .inl z) _ _ e3⟩
              | lin ys =>
                obtain ⟨b, ws, e2, e3, e4, e5⟩ := hj
                have hne : b ≠ a := fun z => by
                  subst z
                  exact q (s1.s.apart i j xs ys b hi hy h1 e2)
                exact ⟨b, ws, e2, e3, by rw [upd_ne hne]; exact e4, Rps.ext eU sub (fun _ z => .inl z) _ _ e5⟩
          · have nj : ∀ (j : Nat) (ys : List Mi.D), (δ.set i (Sl.lin (xs ++ [x])))[j]? = some (Sl.lin ys) → ∃ ys, δ[j]? = some (Sl.lin ys) := fun j ys hj => by
              by_cases q : i = j
              · subst q; exact ⟨xs, hi⟩
              · rw [List.getElem?_set_ne q] at hj
                exact ⟨ys, hj⟩
            obtain ⟨ys', q1⟩ := nj j ys q1
            obtain ⟨zs', q2⟩ := nj k zs q2
            exact s1.s.apart j k ys' zs' b q1 q2 q3 q4
        · exact h5.elim
      | _ => exact hp.elim
/-! ### a def -/
theorem ok_run {P : Program} {w : World} {K : PySem.W.Frag} {mg : Str → Option Value} {base : Heap} {x qual : Str} {params : Arguments} {body : List Stmt} {scope : Scope} {f : Addr} {fd : FuncData} {N ps : List Str} {k : Nat} {cb : Ss} {F : Sem}
    (FD : FunD K x qual params body scope [] [] f fd) (S : FnScope N ps scope) (hF : F = run ps.length N.length cb)
    (hb : ∀ (X : Cx) (W : WX), X.prog = P → X.w = w → X.K = K → X.mg = mg → X.base = base → X.N = N → X.env.scope = scope → X.calm = true → Room k X.A → L2N.Takes X W → PassesOwn (model X.prog X.w) X.A X.env X.xe → (∀ y, X.fn y = true) → X.env.code = fd.code → X.env.qual = qual ++ ".<locals>." → PSs X body (tSs K mg T W cb)) :
    FnOk P w K mg base (L2N.CX P w) (k + 1) f fd ps (spF K mg T ps.length F) := by
  subst hF
  obtain ⟨oc, od, dV, kV, doc, pm, an, cdv, ct, osl, rfl, lk, hcd, _, _⟩ := FD.ex
  refine fn_of lk hcd S (fun vs H Q E h => h.1) fun A outer s H vs Q E hr h => ?_
  obtain ⟨hl, ι, Z, μ, ds, g, r, hp⟩ := h
  refine ⟨tSs K mg T (fun cls d _ H => E cls d H) cb, hb _ _ rfl rfl rfl rfl rfl rfl rfl rfl hr (L2N.takes_of rfl rfl rfl rfl) (L2.passes_of rfl) (fun _ => rfl) rfl rfl, ?_⟩
  refine ⟨ι, Z, [], μ, ds.map .d ++ List.replicate (N.length - ps.length) .un, ⟨by simpa using g, ?_, by simp⟩, ?_⟩
  · have hlen : ds.length = vs.length := r.length
    have slots : ∀ (i : Nat) (y : Sl), (ds.map Sl.d ++ List.replicate (N.length - ps.length) Sl.un)[i]? = some y → y = .un ∨ ∃ d v, y = .d d ∧ (L2.start N vs)[i]? = some (some v) ∧ Rp K mg ι (Z ++ []) H d v := fun i y hy => by
      by_cases hi : i < ds.length
      · rw [List.getElem?_append_left (by simpa using hi), List.getElem?_map] at hy
        cases hd : ds[i]? with
        | none => rw [hd] at hy; cases hy
        | some d =>
          rw [hd] at hy
          cases hy
          obtain ⟨v, h1, h2⟩ := r.get hd
          refine .inr ⟨d, v, rfl, ?_, by simpa using h2⟩
          unfold L2.start
          rw [List.getElem?_append_left (by rw [List.length_map, ← hlen]; exact hi), List.getElem?_map, h1]
          rfl
      · rw [List.getElem?_append_right (by simpa using hi)] at hy
        rw [List.getElem?_replicate] at hy
        split at hy <;> cases hy
        exact .inl rfl
    refine ⟨?_, fun i y hy => ?_, fun i j xs ys a h1 => ?_, by simp⟩
    · unfold L2.start
      simp [hlen, hl]
    · rcases slots i y hy with rfl | ⟨d, v, rfl, h1, h2⟩
      · trivial
      · exact ⟨v, h1, h2⟩
    · rcases slots i _ h1 with e | ⟨_, _, e, _⟩ <;> cases e
  · unfold run at hp
    rw [if_pos (by rw [r.length]; exact hl)] at hp
    match hq : exs cb (ds.map Sl.d ++ List.replicate (N.length - ps.length) Sl.un) μ, hp with
    | some (.nx, δ1, μ1), hp =>
      intro ι1 Zf1 σ1 H1 e1 z1 s1
      refine hp ι1 _ H1 (e1.mono (by simp)) (s1.g.weakZ fun z q => List.mem_append_left _ q) rfl
    | some (.rt d, δ1, μ1), hp =>
      intro ι1 Zf1 σ1 H1 e1 z1 s1 v r1
      exact hp ι1 _ H1 (e1.mono (by simp)) (s1.g.weakZ fun z q => List.mem_append_left _ q) (r1.weak fun z q => List.mem_append_left _ q)
    | some (.ex e, δ1, μ1), hp =>
      intro ι1 Zf1 σ1 H1 e1 z1 s1 cv dx xr
      exact hp ι1 H1 cv dx (e1.mono (by simp)) (s1.g.weakZ fun z q => List.mem_append_left _ q) xr
end
end Mi
set_option Elab.async false
set_option linter.all false
set_option maxRecDepth 100000
set_option maxHeartbeats 4000000
/-! Mua: calls of defs that a name holds; lists that one name alone holds, made by comprehensions, with items put; x, y = e, []. -/
namespace Mi
open PySem PySem.Spec PyProof.Rows L2 RZ
/-! ### a def that a name holds -/
def tDyn (W : WX) (i : Nat) (S : Addr → Sp → Prop) (t : TA) : TE := fun σ H Q => ∃ f sp, σ[i]? = some (some (.ref f)) ∧ S f sp ∧ t σ H fun vs H1 => sp vs H1 Q (WE W σ)
section
variable {X : Cx} {T : TW} {W : WX} {pos : Pos}
theorem pe_dyn {k i : Nat} {x : Str} {p : Pos} {e : Expr} {es : List Expr} {t : TA} {S : Addr → Sp → Prop} (A : ∀ f sp, S f sp → ∃ fd ps, FnOk X.prog X.w X.K X.mg X.base (L2N.CX X.prog X.w) k f fd ps sp ∧ PySem.W.keepIn X.K (.ref f) = true ∧ Binds X.K fd ps []) (hr : Room k X.A) (hN : X.N[i]? = some x) (hv : Vis X.env.scope x) (tk : L2N.Takes X W) (ha : PA X (e :: es) t)
    (hdb : (x == ("__debug__" : Str)) = false) (hcd : (x == ("__classdict__" : Str)) = false) (he : starEach (e :: es) X.env = (false, eval e X.env) :: starEach es X.env) (hpl : (backTo pos (starEach es X.env)).any (·.1) = false) : PE X (.Call (.Name x p) (e :: es) [] pos) (tDyn W i S t) := by
  refine ⟨fun pins s σ H Q I h => ?_⟩
  obtain ⟨f, sp, hs, hS, ht⟩ := h
  obtain ⟨fd, ps, F, hk, hb⟩ := A f sp hS
  refine wpAny_Call_Name_kw (thn ((pe_var (pos := p) hN hv hdb hcd).run pins s σ H (fun v H1 => v = .ref f ∧ H1 = H) I ⟨.ref f, hs, rfl, rfl⟩) fun u s1 ⟨v, H1, I1, r1, q1⟩ => ?_)
  obtain ⟨rfl, rfl⟩ := q1
  cases r1
  refine PySem.W.callWith_K (h₀ := X.base) I.ok.mod.kin hk (thn (ha.run pos pins s1 σ _ _ I1 ht) fun us s2 ⟨vs, H2, I2, r, q⟩ => ⟨I2.kIn, ?_⟩) he hpl
  exact run_fnS F hr hb (L2N.passAt tk σ) I2 r q
theorem m_dyn {x : Str} {e : Expr} {es : List Expr} {ces : Es} {k i : Nat} {p : Pos} {tb : List (Str × Nat × Sem)} (A : ∀ z a F, tb.lookup z = some (a, F) → ∃ f fd ps, X.mg z = some (.ref f) ∧ PySem.W.keepIn X.K (.ref f) = true ∧ Binds X.K fd ps [] ∧ FnOk X.prog X.w X.K X.mg X.base (L2N.CX X.prog X.w) k f fd ps (spF X.K X.mg T a F)) (hr : Room k X.A)
    (hN : X.N[i]? = some x) (hv : Vis X.env.scope x) (tk : L2N.Takes X W) (ha : PA X (e :: es) (tEs X.K X.mg T W ces)) (hdb : (x == ("__debug__" : Str)) = false) (hcd : (x == ("__classdict__" : Str)) = false)
    (he : starEach (e :: es) X.env = (false, eval e X.env) :: starEach es X.env) (hpl : (backTo pos (starEach es X.env)).any (·.1) = false) : PE X (.Call (.Name x p) (e :: es) [] pos) (tE X.K X.mg T W (.dyn i tb ces)) :=
  PE.imp (pe_dyn (k := k) (S := fun f sp => ∃ z a F, tb.lookup z = some (a, F) ∧ X.mg z = some (.ref f) ∧ sp = spF X.K X.mg T a F) (fun f sp ⟨z, a, F, h1, h2, h3⟩ => by
    obtain ⟨f', fd, ps, g1, g2, g3, g4⟩ := A z a F h1
    rw [g1] at h2
    cases h2
    subst h3
    exact ⟨fd, ps, g4, g2, g3⟩) hr hN hv tk ha hdb hcd he hpl) fun σ H Q h => by
    obtain ⟨ι, Z, Zf, μ, δ, g, sr, hp⟩ := h
    simp only [ev] at hp
    split at hp
    · rename_i z hi
      obtain ⟨v, hv1, f, hf1, rfl⟩ := sr.get hi
      split at hp
      · rename_i a F hl
        refine ⟨f, _, hv1, ⟨z, a, F, hl, hf1, rfl⟩, ι, Z, Zf, μ, δ, g, sr, ?_⟩
        refine post.bind hp fun xs μ1 ι1 vs H1 e1 g1 r1 hp1 => ?_
        split at hp1
        · rename_i hn
          exact ⟨by rw [← r1.length]; exact hn, ι1, Z, μ1, xs, g1, r1, hp1⟩
        · exact hp1.elim
      · exact hp.elim
    · exact hp.elim
end
/-! ### comprehensions whose list is held by one name -/
def postF (K : PySem.W.Frag) (mg : Str → Option Value) (T : TW) (ι Z : List Addr) (H : Hp) (r : RM D) (Q : V → Hp → Prop) (W : Value → Option Addr → Hp → Prop) : Prop :=
  match r with
  | none => False
  | some (.ok d, μ) => ∃ ds, d = .lst ds ∧ ∀ ι' p vs H', Ext ι [] H ι' H' → H p = none → RG K mg T ι' (p :: Z) H' μ → H' p = some (.lst vs) → Rps K mg ι' (p :: Z) H' ds vs → Q (.ref p) H'
  | some (.error e, μ) => ∀ ι' H' cv dx, Ext ι [] H ι' H' → RG K mg T ι' Z H' μ → XR mg e cv dx H' → W cv dx H'
section
variable {α β : Type} {K : PySem.W.Frag} {mg : Str → Option Value} {T : TW} {rel : List Addr → List Addr → Hp → α → β → Prop} {ι Z ι1 : List Addr} {H H1 : Hp} {Q : β → Hp → Prop} {Q' : V → Hp → Prop} {W : Value → Option Addr → Hp → Prop}
theorem postF.mono {r : RM D} (h : postF K mg T ι Z H r Q' W) (e : Ext ι [] H ι1 H1) : postF K mg T ι1 Z H1 r Q' W := by
  match r, h with
  | some (.ok a, μ), ⟨ds, hd, h⟩ => exact ⟨ds, hd, fun ι' p vs H' e' hp => h ι' p vs H' (e.trans0 e') (e.free hp)⟩
  | some (.error x, μ), h => exact fun ι' H' cv dx e' => h ι' H' cv dx (e.trans0 e')
theorem postF.bind {x : RM α} {f : α → List Mo → RM D} (hp : postF K mg T ι Z H (bindR x f) Q' W)
    (h : ∀ a μ1 ι1 b H1, Ext ι [] H ι1 H1 → RG K mg T ι1 Z H1 μ1 → rel ι1 Z H1 a b → postF K mg T ι1 Z H1 (f a μ1) Q' W → Q b H1) : post K mg T rel ι Z H x Q W := by
  match x, hp with
  | some (.ok a, μ), hp => exact fun ι' b H' e' g r => h a μ ι' b H' e' g r (hp.mono e')
  | some (.error x, μ), hp => exact hp
end
section
variable {X : Cx} {T : TW} {W : WX} {pos : Pos}
theorem to_compF {ct : Tg} {ci : It} {cc ce : E} {vs : List Nat} (hsl : ∀ i ∈ ct.slots, i ∈ vs) {σ : L2.St} {H : Hp} {Q : VK} (hh : ∃ ι Z Zf μ δ, RG X.K X.mg T ι Z H μ ∧ SR X.K X.mg ι Z Zf H δ σ ∧ postF X.K X.mg T ι Z H (ev (.comp ce ct ci cc vs) δ μ) Q (WS W σ)) :
    tLc (tI X.K X.mg T W ci) (gT X.K X.mg T ct) (tT X.K X.mg T WF cc) (tE X.K X.mg T WF ce) vs σ H Q := by
  obtain ⟨ι, Z, Zf, μ, δ, g, sr, hp⟩ := hh
  refine ⟨ι, Z, Zf, μ, δ, g, sr, postF.bind hp fun xs μ1 ι1 J H1 e1 g1 wk hp1 => ?_⟩
  intro D hD
  obtain ⟨G, Y, wlk, hG, hY⟩ := wk
  have sr1 := sr.ext g e1
  have hz0 : ∀ z ∈ D :: Z, z ∈ Z ∨ H1 z = none := fun z q => by
    rcases List.mem_cons.mp q with q | q
    · rw [q]; exact .inr hD
    · exact .inl q
  have hDZ : D ∉ Z := (g1.notin hD).2
  refine lc_it wlk (fun i H2 => ∃ ι2 μ2 acc av, Ext ι1 [] H1 ι2 H2 ∧ RG X.K X.mg T ι2 (D :: Z) H2 μ2 ∧ H2 D = some (.lst av) ∧ Rps X.K X.mg ι2 (D :: Z) H2 acc av ∧ postF X.K X.mg T ι1 Z H1 (compL ct (ev cc) (ev ce) (wipeS δ vs) (xs.drop i) acc μ2) Q (WS W σ))
    ⟨ι1, μ1, [], [], ext_fresh hD, g1.consZ hD, upd_same, rfl, by simpa using hp1⟩ (fun i H2 _ ⟨ι2, μ2, acc, av, e2, _⟩ => hG ι2 [] H2 e2 (by simp)) ?_ ?_
  · rintro i x H2 H3 hi ⟨ι2, μ2, acc, av, e2, g2, hD2, ra, hp2⟩ y
    obtain ⟨d, hd⟩ : ∃ d, xs[i]? = some d := ⟨xs[i], List.getElem?_eq_getElem hi⟩
    obtain ⟨hh, rd⟩ := hY i d ι2 [] (D :: Z) H2 H3 x hd e2 (by simp) hz0 y
    have st3 : Ext ι2 [] H2 ι2 H3 ∧ RG X.K X.mg T ι2 (D :: Z) H3 μ2 ∧ H3 D = some (.lst av) := by
      rcases hh with rfl | ⟨p, o, hpn, rfl⟩
      · exact ⟨Ext.refl, g2, hD2⟩
      · exact ⟨ext_fresh hpn, g2.fresh hpn, by rw [upd_ne (ne_of_none hD2 hpn)]; exact hD2⟩
    obtain ⟨e3, g3, hD3⟩ := st3
    have ed : xs.drop i = d :: xs.drop (i + 1) := by
      rw [List.drop_eq_getElem_cons hi]
      congr 1
      have := List.getElem?_eq_getElem hi
      rw [hd] at this; exact (Option.some.inj this).symm
    rw [ed] at hp2
    unfold compL at hp2
    have e13 : Ext ι1 [] H1 ι2 H3 := e2.trans0 e3
    have sr3 : SR X.K X.mg ι2 (D :: Z) Zf H3 δ σ := sr1.extZ g1 e13 hz0 (fun z q => List.mem_cons_of_mem _ q)
    cases h1 : ct.put d (wipeS δ vs) with
    | none => rw [h1] at hp2; exact hp2.elim
    | some δ1 =>
      rw [h1] at hp2
      simp only [Option.bind_some] at hp2
      cases h2 : noE (ev cc δ1 μ2) with
      | none => rw [h2] at hp2; exact hp2.elim
      | some r =>
        obtain ⟨k, μ3⟩ := r
        rw [h2] at hp2
        simp only [Option.bind_some] at hp2
        refine ⟨ι2, D :: Z, Zf, wipeS δ vs, d, δ1, sr3.wipe vs, rd, h1, fun σ2 sr4 hw => ⟨by rw [hw vs hsl]; exact wipe_wipe σ vs, ?_⟩⟩
        cases k with
        | bl k =>
          refine ⟨ι2, D :: Z, Zf, μ2, δ1, g3, sr4, ?_⟩
          have h2' : noE (evT cc δ1 μ2) = some (k, μ3) := by
            unfold evT
            match hq : ev cc δ1 μ2, h2 with
            | some (.ok (.bl k'), μ'), h2 => simp only [noE, Option.some.injEq, Prod.mk.injEq, Mi.D.bl.injEq] at h2; obtain ⟨rfl, rfl⟩ := h2; rfl
          refine noE_post h2' fun ι5 b H5 e5 g5 hb => ?_
          subst hb
          have hD5 : H5 D = some (.lst av) := e5.keep D _ hD3 (g3.zl D (List.mem_cons_self ..)).2 (by simp) (fun _ z => by cases z)
          cases k with
          | false =>
            exact iteF ⟨ι5, μ3, acc, av, e13.trans0 e5, g5, hD5, (ra.ext0 e3).ext0 e5, hp2⟩
          | true =>
            simp only at hp2
            cases h3 : noE (ev ce δ1 μ3) with
            | none => rw [h3] at hp2; exact hp2.elim
            | some r =>
              obtain ⟨q, μ4⟩ := r
              rw [h3] at hp2
              simp only [Option.bind_some] at hp2
              split at hp2
              · rename_i hl
                refine iteT ⟨ι5, D :: Z, Zf, μ3, δ1, g5, sr4.ext g3 e5, noE_post h3 fun ι6 y6 H6 e6 g6 r6 => ?_⟩
                have hD6 : H6 D = some (.lst av) := e6.keep D _ hD5 (g5.zl D (List.mem_cons_self ..)).2 (by simp) (fun _ z => by cases z)
                have ra6 := ((ra.ext0 e3).ext0 e5).ext0 e6
                have eU := ext_updZ (ι := ι6) (ws := av ++ [y6]) hD6
                have sub : ∀ z ∈ [D], z ∈ D :: Z := by simp
                refine ⟨av, hD6, by rw [← ra.length]; exact hl, ι6, μ4, acc ++ [q], av ++ [y6], ?_, g6.updZ (List.mem_cons_self ..) hD6, upd_same, ?_, hp2⟩
                · exact ((e13.trans0 e5).trans0 e6).trans eU (fun z q => .inr (by rw [List.mem_singleton.mp q]; exact hD))
                · exact Rps.append (Rps.ext eU sub (fun z q => .inl q) _ _ ra6) ⟨y6, [], rfl, Rp.ext eU sub (fun z q => .inl q) _ _ r6, rfl⟩
              · exact hp2.elim
        | _ => exact hp2.elim
  · rintro H2 ⟨ι2, μ2, acc, av, e2, g2, hD2, ra, hp2⟩
    rw [List.drop_length] at hp2
    obtain ⟨ds, hd, hp2⟩ := hp2
    cases hd
    exact hp2 ι2 D av H2 e2 hD g2 hD2 ra
/-- a list made anew is held by one name alone -/
theorem SX.takeLin {K : PySem.W.Frag} {mg : Str → Option Value} {ι Zo Zf ι1 : List Addr} {H H1 : Hp} {μ μ1 : List Mo} {δ : List Sl} {σ : L2.St} (s : SX K mg T ι Zo Zf H μ δ σ) {p : Addr} {i : Nat} {xs : List Mi.D} {vs : List V} (e : Ext ι [] H ι1 H1) (hp : H p = none) (g : RG K mg T ι1 (p :: (Zo ++ Zf)) H1 μ1) (h1 : H1 p = some (.lst vs)) (r : Rps K mg ι1 (p :: (Zo ++ Zf)) H1 xs vs) :
    SX K mg T ι1 Zo (p :: Zf) H1 μ1 (δ.set i (.lin xs)) (σ.set i (some (.ref p))) := by
  have sub : ∀ z ∈ Zo ++ p :: Zf, z ∈ p :: (Zo ++ Zf) := fun z q => by
    rcases List.mem_append.mp q with q | q
    · exact List.mem_cons_of_mem _ (List.mem_append_left _ q)
    · rcases List.mem_cons.mp q with q | q
      · rw [q]; exact List.mem_cons_self ..
      · exact List.mem_cons_of_mem _ (List.mem_append_right _ q)
  have hz : ∀ z ∈ Zo ++ p :: Zf, z ∈ Zo ++ Zf ∨ H z = none := fun z q => by
    rcases List.mem_cons.mp (sub z q) with q | q
    · rw [q]; exact .inr hp
    · exact .inl q
  have nz := (s.g.notin hp)
  refine ⟨g.weakZ sub, ?_, fun z q => ?_⟩
  · have olds : ∀ (j : Nat) (y : Sl), δ[j]? = some y → SlOk K mg ι1 (Zo ++ p :: Zf) (p :: Zf) H1 y σ[j]? := fun j y hy => by
      have h := s.s.ok j y hy
      cases y with
      | un => trivial
      | d x => obtain ⟨v, h1, h2⟩ := h; exact ⟨v, h1, Rp.ext e (by simp) hz x v h2⟩
      | lin ys =>
        obtain ⟨a, ws, h1, h2, h3, h4⟩ := h
        exact ⟨a, ws, h1, List.mem_cons_of_mem _ h2, e.keep a _ h3 (s.g.zl a (s.s.sub a h2)).2 (by simp) (fun _ z => by cases z), Rps.ext e (by simp) hz _ _ h4⟩
    refine ⟨by simp [s.s.len], fun j y hy => ?_, fun j k ys zs a h1 h2 h3 h4 => ?_, fun z q => List.mem_append_right _ q⟩
    · by_cases q : i = j
      · subst q
        have hl : i < δ.length := by
          have := (List.getElem?_eq_some_iff.mp hy).1
          simpa using this
        rw [List.getElem?_set_self hl] at hy
        cases hy
        exact ⟨p, vs, by rw [List.getElem?_set_self (by rw [← s.s.len]; exact hl)], List.mem_cons_self .., h1, r.weak sub⟩
      · rw [List.getElem?_set_ne q] at hy ⊢
        exact olds j y hy
    · have notp : ∀ (j : Nat) (ys : List Mi.D), j ≠ i → (δ.set i (Sl.lin xs))[j]? = some (Sl.lin ys) → (σ.set i (some (V.ref p)))[j]? ≠ some (some (V.ref p)) := fun j ys hj hy q => by
        rw [List.getElem?_set_ne (Ne.symm hj)] at hy q
        obtain ⟨a, ws, e1, e2, e3, _⟩ := s.s.ok j _ hy
        rw [q] at e1; cases e1
        rw [hp] at e3; cases e3
      by_cases q1 : j = i
      · by_cases q2 : k = i
        · rw [q1, q2]
        · subst q1
          have hl : j < σ.length := by
            have := (List.getElem?_eq_some_iff.mp h3).1
            simpa using this
          rw [List.getElem?_set_self hl] at h3
          cases h3
          exact absurd h4 (notp k zs q2 h2)
      · by_cases q2 : k = i
        · subst q2
          have hl : k < σ.length := by
            have := (List.getElem?_eq_some_iff.mp h4).1
            simpa using this
          rw [List.getElem?_set_self hl] at h4
          cases h4
          exact absurd h3 (notp j ys q1 h1)
        · rw [List.getElem?_set_ne (Ne.symm q1)] at h1 h3
          rw [List.getElem?_set_ne (Ne.symm q2)] at h2 h4
          exact s.s.apart j k ys zs a h1 h2 h3 h4
  · rcases List.mem_cons.mp q with q | q
    · rw [q]; exact fun z => nz.2 (List.mem_append_left _ z)
    · exact s.dj z q
/-- name = [.. for ..], a list that this name alone holds -/
theorem linc_end {i : Nat} {σ : L2.St} {H : Hp} {D : Ends} {ct : Tg} {ci : It} {cc ce : E} {vs : List Nat} (hsl : ∀ i ∈ ct.slots, i ∈ vs) (h : tS X.K X.mg T W (.linc i (.comp ce ct ci cc vs)) D σ H) : tLc (tI X.K X.mg T W ci) (gT X.K X.mg T ct) (tT X.K X.mg T WF cc) (tE X.K X.mg T WF ce) vs σ H fun x H1 => gName i x σ H1 D.nx := by
  obtain ⟨ι, Zo, Zf, μ, δ, s, hp⟩ := h
  simp only [ex] at hp
  refine to_compF (T := T) (W := W) hsl ⟨ι, Zo ++ Zf, Zf, μ, δ, s.g, s.s, ?_⟩
  match hq : ev (.comp ce ct ci cc vs) δ μ, hp with
  | some (.error e, μ1), hp =>
    intro ι1 H1 cv dx e1 g1 xr
    exact hp ι1 Zf σ H1 (e1.mono (by simp)) (fun _ z => .inl z) ⟨g1, s.s.ext s.g e1, s.dj⟩ cv dx xr
  | some (.ok d, μ1), hp =>
    cases d with
    | lst ds =>
      refine ⟨ds, rfl, fun ι1 p vs1 H1 e1 hpn g1 h1 r1 => ?_⟩
      have sx := s.takeLin (i := i) (μ1 := μ1) e1 hpn g1 h1 r1
      exact (hp.mono (ι1 := ι1) (Zf1 := p :: Zf) (e1.mono (by simp)) fun z hz => by
        rcases List.mem_cons.mp hz with e | e
        · rw [e]; exact .inr hpn
        · exact .inl e).nx sx
    | _ => exact hp.elim
theorem s_lincA {i : Nat} {y : Str} {py cpos : Pos} {elt iter : Expr} {tg : Expr} {ifs : List Expr} {scope : Scope} {own : List (Str × Nat)} {ct : Tg} {ci : It} {cc ce : E} (hc : X.calm = true) (hN : X.N.Nodup) (hy : X.N[i]? = some y) (hyl : X.env.scope.names.lookup y = some .local)
    (hsw : swapsWith (.ListComp elt [⟨tg, iter, ifs, 0⟩] scope cpos) (some (.Name y py)) pos.line X.env = pure true) (hi : PI X tg iter (tI X.K X.mg T W ci)) (ok : BlkOk X.N X.env.scope scope own)
    (hg : ∀ (s : Shared) (H : Hp) (C : Addr) (cl : List (Str × Addr)) (fp : List Addr), PG (X.blk s H scope (compEnvC scope cl C X.env) fp) tg (gT X.K X.mg T ct))
    (ht : ∀ (s : Shared) (H : Hp) (C : Addr) (cl : List (Str × Addr)) (fp : List Addr), PTs (X.blk s H scope (compEnvC scope cl C X.env) fp) ifs (tT X.K X.mg T WF cc))
    (he : ∀ (s : Shared) (H : Hp) (C : Addr) (cl : List (Str × Addr)) (fp : List Addr), PE (X.blk s H scope (compEnvC scope cl C X.env) fp) elt (tE X.K X.mg T WF ce)) (hs : ∀ x, foldedSetIterable iter X.env x = pure x)
    (vs : List Nat) (hvs : vs = own.map (·.2)) (hsl : ∀ i ∈ ct.slots, i ∈ vs) : PS X (.Assign [.Name y py] (.ListComp elt [⟨tg, iter, ifs, 0⟩] scope cpos) pos) (tS X.K X.mg T W (.linc i (.comp ce ct ci cc vs))) :=
  PS.imp (ps_setLc hc hN hy hyl hsw hi ok hg ht he hs) fun D σ H h => by
    rw [← hvs]
    exact linc_end hsl h
theorem s_lincB {i : Nat} {y : Str} {py cpos : Pos} {elt iter : Expr} {tg : Expr} {ifs : List Expr} {scope : Scope} {own : List (Str × Nat)} {ct : Tg} {ci : It} {cc ce : E} (hc : X.calm = true) (hN : X.N.Nodup) (hy : X.N[i]? = some y) (hx : Loc X.env.scope y) (hf : X.fn y = true ∨ X.env.scope.names.lookup y = some .local)
    (hsw : swapsWith (.ListComp elt [⟨tg, iter, ifs, 0⟩] scope cpos) (some (.Name y py)) pos.line X.env = pure false) (hi : PI X tg iter (tI X.K X.mg T W ci)) (ok : BlkOk X.N X.env.scope scope own)
    (hg : ∀ (s : Shared) (H : Hp) (C : Addr) (cl : List (Str × Addr)) (fp : List Addr), PG (X.blk s H scope (compEnvC scope cl C X.env) fp) tg (gT X.K X.mg T ct))
    (ht : ∀ (s : Shared) (H : Hp) (C : Addr) (cl : List (Str × Addr)) (fp : List Addr), PTs (X.blk s H scope (compEnvC scope cl C X.env) fp) ifs (tT X.K X.mg T WF cc))
    (he : ∀ (s : Shared) (H : Hp) (C : Addr) (cl : List (Str × Addr)) (fp : List Addr), PE (X.blk s H scope (compEnvC scope cl C X.env) fp) elt (tE X.K X.mg T WF ce)) (hs : ∀ x, foldedSetIterable iter X.env x = pure x)
    (vs : List Nat) (hvs : vs = own.map (·.2)) (hsl : ∀ i ∈ ct.slots, i ∈ vs) : PS X (.Assign [.Name y py] (.ListComp elt [⟨tg, iter, ifs, 0⟩] scope cpos) pos) (tS X.K X.mg T W (.linc i (.comp ce ct ci cc vs))) :=
  PS.imp (ps_set hN hy hx (pe_lc hc hN hi ok hg ht he hs) hsw hf) fun D σ H h => by
    rw [← hvs]
    exact linc_end hsl h
/-- what a list sum asks whose outcome one name alone holds -/
def rF (K : PySem.W.Frag) (mg : Str → Option Value) (T : TW) : R2 := fun x y H Q => ∃ ι Z μ d e ds, RG K mg T ι Z H μ ∧ Rp K mg ι Z H d x ∧ Rp K mg ι Z H e y ∧ addD μ d e = some (.lst ds) ∧
  ∀ ι' p vs H', Ext ι [] H ι' H' → H p = none → RG K mg T ι' (p :: Z) H' μ → H' p = some (.lst vs) → Rps K mg ι' (p :: Z) H' ds vs → Q (.ref p) H'
theorem ok_addF : OpR X (binaryOp .Add) (rF X.K X.mg T) := by
  intro pins s σ H x y v u Q I rx ry h
  obtain ⟨ι, Z, μ, d, e, ds, g, hd, he, ho, q⟩ := h
  simp only [addD] at ho
  split at ho
  · cases ho
  · cases ho
  · split at ho <;> cases ho
  · split at ho <;> cases ho
  · rename_i xs ys e1 e2
    obtain ⟨a, vs, rfl, h1, h2⟩ := see_lst g e1 hd
    obtain ⟨b, ws, rfl, h3, h4⟩ := see_lst g e2 he
    split at ho <;> cases ho
    rename_i hz
    have l1 := h2.length
    have l2 := h4.length
    refine op_cat pins s σ H _ _ v u Q I rx ry ⟨a, b, vs, ws, rfl, rfl, h1, h3, by omega, fun p hp => q ι p (vs ++ ws) _ (ext_fresh hp) hp (g.consZ hp) upd_same ?_⟩
    exact Rps.ext (Zf := []) (ext_fresh hp) (by simp) (fun z hz => (List.mem_cons.mp hz).elim (fun e => .inr (e ▸ hp)) .inl) _ _ (h2.append h4)
  · cases ho
theorem to_opF {ca cb : E} {σ : L2.St} {H : Hp} {Q : VK} (hh : ∃ ι Z Zf μ δ, RG X.K X.mg T ι Z H μ ∧ SR X.K X.mg ι Z Zf H δ σ ∧ postF X.K X.mg T ι Z H (ev (.op .add ca cb) δ μ) Q (WS W σ)) :
    tOp (rF X.K X.mg T) (tE X.K X.mg T W ca) (tE X.K X.mg T W cb) σ H Q := by
  obtain ⟨ι, Z, Zf, μ, δ, g, sr, hp⟩ := hh
  refine ⟨ι, Z, Zf, μ, δ, g, sr, postF.bind hp fun x μ1 ι1 v H1 e1 g1 r1 hp1 => ?_⟩
  refine ⟨ι1, Z, Zf, μ1, δ, g1, sr.ext g e1, postF.bind hp1 fun y μ2 ι2 w H2 e2 g2 r2 hp2 => ?_⟩
  unfold optR at hp2
  cases ho : Op.do .add μ2 x y with
  | none => rw [ho] at hp2; exact hp2.elim
  | some r =>
    rw [ho] at hp2
    obtain ⟨ds, rfl, hq⟩ := hp2
    exact ⟨ι2, Z, μ2, x, y, ds, g2, r1.ext0 e2, r2, ho, hq⟩
theorem linc_opEnd {i : Nat} {σ : L2.St} {H : Hp} {D : Ends} {ca cb : E} (h : tS X.K X.mg T W (.linc i (.op .add ca cb)) D σ H) : tOp (rF X.K X.mg T) (tE X.K X.mg T W ca) (tE X.K X.mg T W cb) σ H fun x H1 => gName i x σ H1 D.nx := by
  obtain ⟨ι, Zo, Zf, μ, δ, s, hp⟩ := h
  simp only [ex] at hp
  refine to_opF (T := T) (W := W) ⟨ι, Zo ++ Zf, Zf, μ, δ, s.g, s.s, ?_⟩
  match hq : ev (.op .add ca cb) δ μ, hp with
  | some (.error e, μ1), hp =>
    intro ι1 H1 cv dx e1 g1 xr
    exact hp ι1 Zf σ H1 (e1.mono (by simp)) (fun _ z => .inl z) ⟨g1, s.s.ext s.g e1, s.dj⟩ cv dx xr
  | some (.ok d, μ1), hp =>
    cases d with
    | lst ds =>
      refine ⟨ds, rfl, fun ι1 p vs1 H1 e1 hpn g1 h1 r1 => ?_⟩
      have sx := s.takeLin (i := i) (μ1 := μ1) e1 hpn g1 h1 r1
      exact (hp.mono (ι1 := ι1) (Zf1 := p :: Zf) (e1.mono (by simp)) fun z hz => by
        rcases List.mem_cons.mp hz with e | e
        · rw [e]; exact .inr hpn
        · exact .inl e).nx sx
    | _ => exact hp.elim
theorem s_lincOp {i : Nat} {y : Str} {py bp : Pos} {a b : Expr} {ca cb : E} (hN : X.N.Nodup) (hy : X.N[i]? = some y) (hx : Loc X.env.scope y) (hf : X.fn y = true ∨ X.env.scope.names.lookup y = some .local)
    (hsw : swapsWith (.BinOp a .Add b bp) (some (.Name y py)) pos.line X.env = pure false) (ha : PE X a (tE X.K X.mg T W ca)) (hb : PE X b (tE X.K X.mg T W cb)) :
    PS X (.Assign [.Name y py] (.BinOp a .Add b bp) pos) (tS X.K X.mg T W (.linc i (.op .add ca cb))) :=
  PS.imp (ps_set hN hy hx (pe_op ok_addF ha hb) hsw hf) fun D σ H h => linc_opEnd h
/-- name[k] = e, of a list that one name alone holds -/
theorem s_lput {e i : Expr} {ce ci : E} {n : Nat} {x : Str} {px p : Pos} (he : PE X e (tE X.K X.mg T W ce)) (hN : X.N[n]? = some x) (hv : Vis X.env.scope x) (hd : (x == ("__debug__" : Str)) = false) (hcd : (x == ("__classdict__" : Str)) = false) (hi : PE X i (tE X.K X.mg T W ci)) (hs : swapsWithSole [.Subscript (.Name x px) i p] e pos.line X.env = pure false) (hw : swappedStores [.Subscript (.Name x px) i p] e X.env = pure none)
    (h1 : (assignEach [.Subscript (.Name x px) i p] X.env).map (·.2) = [assign (.Subscript (.Name x px) i p) X.env]) (ha : ∀ v, assign (.Subscript (.Name x px) i p) X.env v = (do
      let ov ← holding [v] (eval (.Name x px) X.env)
      let iv ← holding [v, ov] (eval i X.env)
      standAt p
      holding [v, ov, iv] (setItem ov iv v)
      release [v, ov, iv] [])) : PS X (.Assign [.Subscript (.Name x px) i p] e pos) (tS X.K X.mg T W (.lput n ci ce)) :=
  PS.imp (ps_asg he (pg_sub (pe_var hN hv hd hcd) hi set_list ha) hs hw h1) fun D σ H h => by
    obtain ⟨ι, Zo, Zf, μ, δ, s, hp⟩ := h
    simp only [ex] at hp
    refine ⟨ι, Zo ++ Zf, Zf, μ, δ, s.g, s.s, hp.thenE s fun v μ1 ι1 v' H1 e1 r1 s1 h1 => ?_⟩
    cases hn : δ[n]? with
    | none => rw [hn] at h1; exact h1.elim
    | some y =>
      rw [hn] at h1
      cases y with
      | lin xs =>
        obtain ⟨a, vs, g1, g2, g3, g4⟩ := s1.s.ok n _ hn
        refine ⟨.ref a, g1, ι1, Zo ++ Zf, Zf, μ1, δ, s1.g, s1.s, h1.thenE s1 fun k μ2 ι2 k' H2 e2 r2 s2 h2 => ?_⟩
        cases k with
        | int k =>
          simp only at h2
          have r2' : k' = V.int k := r2
          subst r2'
          cases hx : L2.ixN xs.length k with
          | none => rw [hx] at h2; exact h2.elim
          | some j =>
            rw [hx] at h2
            simp only [Option.bind_some] at h2
            have ha : a ∈ Zo ++ Zf := List.mem_append_right _ g2
            have h6 : H2 a = some (.lst vs) := e2.keep a _ g3 (s1.g.zl a ha).2 (by simp) (fun _ z => by cases z)
            refine ⟨a, vs, k, j, rfl, rfl, h6, by rw [← g4.length]; exact hx, ?_⟩
            have eU := ext_updZ (ι := ι2) (ws := vs.set j v') h6
            have sub : ∀ z ∈ [a], z ∈ Zo ++ Zf := fun z q => by rw [List.mem_singleton.mp q]; exact ha
            refine (h2.mono (ι1 := ι2) (Zf1 := Zf) (eU.mono fun z q => by rw [List.mem_singleton.mp q]; exact g2) fun _ z => .inl z).nx ⟨s2.g.updZ ha h6, ?_, s2.dj⟩
            have hl : n < δ.length := (List.getElem?_eq_some_iff.mp hn).1
            refine ⟨by rw [List.length_set]; exact s2.s.len, fun j2 y hy => ?_, fun j1 k1 ys zs b q1 q2 q3 q4 => ?_, s2.s.sub⟩
            · by_cases q : n = j2
              · subst q
                rw [List.getElem?_set_self hl] at hy
                cases hy
                refine ⟨a, vs.set j v', g1, g2, upd_same, ?_⟩
                exact Rps.set j (Rps.ext eU sub (fun _ z => .inl z) _ _ (g4.ext0 e2)) (Rp.ext eU sub (fun _ z => .inl z) _ _ (r1.ext0 e2))
              · rw [List.getElem?_set_ne q] at hy
                have hj := s2.s.ok j2 y hy
                cases y with
                | un => trivial
                | d z => obtain ⟨w, w1, w2⟩ := hj; exact ⟨w, w1, Rp.ext eU sub (fun _ z => .inl z) _ _ w2⟩
                | lin ys =>
                  obtain ⟨b, ws, w1, w2, w3, w4⟩ := hj
                  have hne : b ≠ a := fun z => by
                    subst z
                    exact q (s2.s.apart n j2 xs ys b hn hy g1 w1)
                  exact ⟨b, ws, w1, w2, by rw [upd_ne hne]; exact w3, Rps.ext eU sub (fun _ z => .inl z) _ _ w4⟩
            · have nj : ∀ (j1 : Nat) (ys : List Mi.D), (δ.set n (Sl.lin (xs.set j v)))[j1]? = some (Sl.lin ys) → ∃ zs, δ[j1]? = some (Sl.lin zs) := fun j1 ys hj => by
                by_cases q : n = j1
                · subst q; exact ⟨xs, hn⟩
                · rw [List.getElem?_set_ne q] at hj
                  exact ⟨ys, hj⟩
              obtain ⟨ys', q1⟩ := nj j1 ys q1
              obtain ⟨zs', q2⟩ := nj k1 zs q2
              exact s2.s.apart j1 k1 ys' zs' b q1 q2 q3 q4
        | _ => exact h2.elim
      | _ => exact h1.elim
/-- x, y = e, [] -/
theorem s_setl {i j : Nat} {x y : Str} {a : Expr} {ca : E} {px py pt pl : Pos} {kt k2 pt2} (hc : X.calm = true) (hN : X.N.Nodup) (hi : X.N[i]? = some x) (hj : X.N[j]? = some y) (hij : i ≠ j)
    (hx : X.env.scope.names.lookup x = some .local) (hy : X.env.scope.names.lookup y = some .local) (ha : PE X a (tE X.K X.mg T W ca)) (hst : starEach [a, .List [] pl] X.env = (false, eval a X.env) :: starEach [.List [] pl] X.env)
    (hw : swappedStores [.Tuple [.Name x px, .Name y py] kt pt] (.Tuple [a, .List [] pl] k2 pt2) X.env = pure (some [x, y]))
    (hs : swapsWithSole [.Tuple [.Name x px, .Name y py] kt pt] (.Tuple [a, .List [] pl] k2 pt2) pos.line X.env = pure false) :
    PS X (.Assign [.Tuple [.Name x px, .Name y py] kt pt] (.Tuple [a, .List [] pl] k2 pt2) pos) (tS X.K X.mg T W (.setl i j ca)) :=
  PS.imp (ps_par hc hN hi hj hij hx hy (pa_cons ha (pa_cons (pe_lst pa_nil) pa_nil rfl) hst) hw hs) fun D σ H h => by
    obtain ⟨ι, Zo, Zf, μ, δ, s, hp⟩ := h
    simp only [ex] at hp
    refine ⟨ι, Zo ++ Zf, Zf, μ, δ, s.g, s.s, hp.thenE s fun v μ1 ι1 v' H1 e1 r1 s1 h1 => ?_⟩
    refine ⟨by simp, fun q hq => ⟨v', .ref q, rfl, ?_⟩⟩
    have s2 : SX X.K X.mg T ι1 Zo Zf H1 μ1 (δ.set i (.d v)) (σ.set i (some v')) := ⟨s1.g, s1.s.set r1, s1.dj⟩
    refine (h1.mono (ι1 := ι1) (Zf1 := q :: Zf) (ext_fresh (o := .lst []) hq) fun z hz => ?_).nx (s2.newLin hq (xs := []) (vs := []) rfl)
    rcases List.mem_cons.mp hz with e | e
    · rw [e]; exact .inr hq
    · exact .inl e
end
end Mi
set_option Elab.async false
set_option linter.all false
set_option maxRecDepth 100000
set_option maxHeartbeats 4000000
/-! Nk: list comprehensions of two and three clauses, clause by clause. -/
namespace Mi
open PySem PySem.Spec PyProof.Rows L2
/-- what a clause's body comes to -/
abbrev BW := (Shared → Prop) → Shared → Prop
abbrev BT := L2.St → Hp → (Hp → Prop) → Prop
/-- the next clause is begun and gone through -/
def nextW (prog : Program) (w : World) (A : Around) (cmp : Expr) (idx : Nat) (i : Expr) (acc : Value) (env : Env) : BW := fun P s =>
  wpAny (model prog w) A (eval i env) (fun x s₄ => wpAny (model prog w) A (pyIter x) (fun it1 s₅ => codeAny (model prog w) A (.compStart cmp idx it1 acc env) (fun r s' => match r with
    | .ok _ => P s'
    | .error _ => False) s₅) (fun _ _ => False) s₄) (fun _ _ => False) s
/-- an item more -/
def lastW (prog : Program) (w : World) (A : Around) (elt : Expr) (acc : Value) (env : Env) : BW := fun P s =>
  wpAny (model prog w) A (eval elt env) (fun x s₄ => wpAny (model prog w) A (call (.builtin "list.append") [acc, x]) (fun _ s₅ => P s₅) (fun _ _ => False) s₄) (fun _ _ => False) s
/-- a clause's turns, as the model goes through them -/
def TurnW (prog : Program) (w : World) (A : Around) (cmp : Expr) (idx : Nat) (t : Expr) (ifs : List Expr) (acc : Value) (env : Env) (b : BW) : Prop := ∀ (R : Result → Shared → Prop) (s : Shared) (it : Value) (I : Nat → Shared → Prop),
  (∀ n s, I n s → wpAny (model prog w) A (pyNext it) (fun r s₁ => match r with
      | none => R (.ok .next) s₁
      | some v => wpAny (model prog w) A (letOwnedTupleGo t it v) (fun _ s₁' => wpAny (model prog w) A (assign t env v) (fun _ s₂ =>
          wpAny (model prog w) A (forIn ifs true fun c r => if r = true then do let ok ← isTrue c env (eval c env); pure (ForInStep.yield ok) else pure (ForInStep.yield r)) (fun ok s₃ =>
            if ok = true then b (fun s' => ∃ m, m < n ∧ I m s') s₃ else ∃ m, m < n ∧ I m s₃) (fun _ _ => False) s₂) (fun _ _ => False) s₁') (fun _ _ => False) s₁) (fun _ _ => False) s) →
  ∀ n, I n s → codeAny (model prog w) A (.compLoop cmp idx it acc env) R s
def StartW (prog : Program) (w : World) (A : Around) (cmp : Expr) (idx : Nat) (acc : Value) (env : Env) : Prop := ∀ (R : Result → Shared → Prop) (s : Shared) (it : Value),
  codeAny (model prog w) A (.compLoop cmp idx it acc env) R s →
  wpAny (model prog w) A (pyIter it) (fun it' s' => codeAny (model prog w) A (.compLoop cmp idx it' acc env) R s') (notedBy (model prog w) A env fun x s' => R (.error x) s') s →
  codeAny (model prog w) A (.compStart cmp idx it acc env) R s
theorem monoF {α : Type} {t : PySem.Sem α} {Q Q' : α → Shared → Prop} {M : Model} {A : Around} {E : Value → Shared → Prop} {s : Shared} (h : wpAny M A t Q (fun _ _ => False) s) (hQ : ∀ a s, Q a s → Q' a s) : wpAny M A t Q' E s := wpAny_mono h hQ fun _ _ z => False.elim z
theorem cturn2_0 (elt t0 i0 t1 i1 : Expr) (ifs0 ifs1 : List Expr) (scope : Scope) (pos : Pos) (it acc : Value) (env : Env) :
    compTurn (.ListComp elt [⟨t0, i0, ifs0, 0⟩, ⟨t1, i1, ifs1, 0⟩] scope pos) 0 it acc env = (do
      standAt i0.pos
      match ← pyNext it with
      | none => pure (.done .next)
      | some v =>
        letOwnedTupleGo t0 it v
        assign t0 env v
        let mut ok := true
        for c in ifs0 do
          if ok then ok ← isTrue c env (eval c env)
        if ok then
          let x ← eval i1 env
          standAt i1.pos
          let x ← foldedSetIterable i1 env x
          let _ ← runOwn (.compStart (.ListComp elt [⟨t0, i0, ifs0, 0⟩, ⟨t1, i1, ifs1, 0⟩] scope pos) 1 (← holding [x] (pyIter x)) acc env) env
        again (.compLoop (.ListComp elt [⟨t0, i0, ifs0, 0⟩, ⟨t1, i1, ifs1, 0⟩] scope pos) 0 it acc env)) := by rfl
theorem turnW2_0 {prog : Program} {w : World} {A : Around} {elt t0 i0 t1 i1 : Expr} {ifs0 ifs1 : List Expr} {scope : Scope} {pos : Pos} {acc : Value} {env : Env} (hs : ∀ x, foldedSetIterable i1 env x = pure x) :
    TurnW prog w A (.ListComp elt [⟨t0, i0, ifs0, 0⟩, ⟨t1, i1, ifs1, 0⟩] scope pos) 0 t0 ifs0 acc env (nextW prog w A (.ListComp elt [⟨t0, i0, ifs0, 0⟩, ⟨t1, i1, ifs1, 0⟩] scope pos) 1 i1 acc env) := by
  intro R s it I turn n h
  refine codeAny_loop rfl I (fun n s hI => ?_) n h
  show wpAny _ A ((compTurn (.ListComp elt [⟨t0, i0, ifs0, 0⟩, ⟨t1, i1, ifs1, 0⟩] scope pos) 0 it acc env).onRaise (fun x => do noteFrame x env; theTreesLotGoes x)) _ _ s
  refine wpAny_noted ?_
  rw [cturn2_0]
  refine wpAny_bind (wpAny_standAt (wpAny_bind (monoF (turn n s hI) (fun r s₁ h₁ => ?_))))
  cases r with
  | none => exact wpAny_pure h₁
  | some v =>
    refine wpAny_bind (monoF h₁ (fun _ s₁' h₁' => ?_))
    refine wpAny_bind (monoF h₁' (fun _ s₂ h₂ => wpAny_bind (monoF h₂ (fun ok s₃ h₃ => ?_))))
    cases ok with
    | false => exact wpAny_pure ⟨rfl, h₃⟩
    | true =>
      refine wpAny_bind (monoF h₃ (fun x s₄ h₄ => ?_))
      refine wpAny_bind (wpAny_standAt (wpAny_bind (wpAny_of_eq (hs x) (wpAny_bind (wpAny_holding (monoF h₄ (fun it1 s₅ h₅ => ?_)))))))
      refine wpAny_bind (wpAny_runOwn ?_)
      rw [Around.mark_none]
      refine codeAny_mono h₅ fun r s' hr => ?_
      cases r with
      | ok f =>
        first
          | exact wpAny_pure ⟨rfl, hr⟩
          | exact wpAny_bind (wpAny_pure (wpAny_pure ⟨rfl, hr⟩))
      | error e => exact hr.elim
theorem cturn2_1 (elt t0 i0 t1 i1 : Expr) (ifs0 ifs1 : List Expr) (scope : Scope) (pos : Pos) (it acc : Value) (env : Env) :
    compTurn (.ListComp elt [⟨t0, i0, ifs0, 0⟩, ⟨t1, i1, ifs1, 0⟩] scope pos) 1 it acc env = (do
      standAt i1.pos
      match ← pyNext it with
      | none => pure (.done .next)
      | some v =>
        letOwnedTupleGo t1 it v
        assign t1 env v
        let mut ok := true
        for c in ifs1 do
          if ok then ok ← isTrue c env (eval c env)
        if ok then
          (do let _ ← call (.builtin "list.append") [acc, ← eval elt env])
        again (.compLoop (.ListComp elt [⟨t0, i0, ifs0, 0⟩, ⟨t1, i1, ifs1, 0⟩] scope pos) 1 it acc env)) := by rfl
theorem turnW2_1 {prog : Program} {w : World} {A : Around} {elt t0 i0 t1 i1 : Expr} {ifs0 ifs1 : List Expr} {scope : Scope} {pos : Pos} {acc : Value} {env : Env} :
    TurnW prog w A (.ListComp elt [⟨t0, i0, ifs0, 0⟩, ⟨t1, i1, ifs1, 0⟩] scope pos) 1 t1 ifs1 acc env (lastW prog w A elt acc env) := by
  intro R s it I turn n h
  refine codeAny_loop rfl I (fun n s hI => ?_) n h
  show wpAny _ A ((compTurn (.ListComp elt [⟨t0, i0, ifs0, 0⟩, ⟨t1, i1, ifs1, 0⟩] scope pos) 1 it acc env).onRaise (fun x => do noteFrame x env; theTreesLotGoes x)) _ _ s
  refine wpAny_noted ?_
  rw [cturn2_1]
  refine wpAny_bind (wpAny_standAt (wpAny_bind (monoF (turn n s hI) (fun r s₁ h₁ => ?_))))
  cases r with
  | none => exact wpAny_pure h₁
  | some v =>
    refine wpAny_bind (monoF h₁ (fun _ s₁' h₁' => ?_))
    refine wpAny_bind (monoF h₁' (fun _ s₂ h₂ => wpAny_bind (monoF h₂ (fun ok s₃ h₃ => ?_))))
    cases ok with
    | false => exact wpAny_pure ⟨rfl, h₃⟩
    | true =>
      exact wpAny_bind (wpAny_bind (monoF h₃ (fun x s₄ h₄ => wpAny_bind (monoF h₄ (fun _ s₅ h₅ => wpAny_pure (wpAny_pure ⟨rfl, h₅⟩))))))
theorem startW2_1 {prog : Program} {w : World} {A : Around} {elt t0 i0 t1 i1 : Expr} {ifs0 ifs1 : List Expr} {scope : Scope} {pos : Pos} {acc : Value} {env : Env} : StartW prog w A (.ListComp elt [⟨t0, i0, ifs0, 0⟩, ⟨t1, i1, ifs1, 0⟩] scope pos) 1 acc env := by
  intro R s it h0 h
  refine codeAny_of_tree ?_
  show wpAny _ _ ((compStart (.ListComp elt [⟨t0, i0, ifs0, 0⟩, ⟨t1, i1, ifs1, 0⟩] scope pos) 1 it acc env).onRaise (fun x => do noteFrame x env; standAt theWindowsPlace)) _ _ s
  refine wpAny_notedAt ?_
  unfold compStart
  show wpAny _ _ (ask >>= _) _ _ s
  refine wpAny_bind (wpAny_askSetting (wpAny_ite ?_))
  split
  · first
      | exact wpAny_bind (wpAny_pure (wpAny_pure (And.intro rfl h0)))
      | exact wpAny_pure (And.intro rfl h0)
  · first
      | exact wpAny_bind (wpAny_rule (wpAny_bind (wpAny_standAt (wpAny_bind (wpAny_mono h (fun it' s' h' => wpAny_pure (And.intro rfl h')) fun _ _ x => x)))))
      | (refine wpAny_bind (wpAny_rule ?_); show wpAny _ _ (standAt i1.pos >>= _) _ _ s; exact wpAny_bind (wpAny_standAt (wpAny_bind (wpAny_mono h (fun it' s' h' => wpAny_pure (And.intro rfl h')) fun _ _ x => x))))
theorem cturn3_0 (elt t0 i0 t1 i1 t2 i2 : Expr) (ifs0 ifs1 ifs2 : List Expr) (scope : Scope) (pos : Pos) (it acc : Value) (env : Env) :
    compTurn (.ListComp elt [⟨t0, i0, ifs0, 0⟩, ⟨t1, i1, ifs1, 0⟩, ⟨t2, i2, ifs2, 0⟩] scope pos) 0 it acc env = (do
      standAt i0.pos
      match ← pyNext it with
      | none => pure (.done .next)
      | some v =>
        letOwnedTupleGo t0 it v
        assign t0 env v
        let mut ok := true
        for c in ifs0 do
          if ok then ok ← isTrue c env (eval c env)
        if ok then
          let x ← eval i1 env
          standAt i1.pos
          let x ← foldedSetIterable i1 env x
          let _ ← runOwn (.compStart (.ListComp elt [⟨t0, i0, ifs0, 0⟩, ⟨t1, i1, ifs1, 0⟩, ⟨t2, i2, ifs2, 0⟩] scope pos) 1 (← holding [x] (pyIter x)) acc env) env
        again (.compLoop (.ListComp elt [⟨t0, i0, ifs0, 0⟩, ⟨t1, i1, ifs1, 0⟩, ⟨t2, i2, ifs2, 0⟩] scope pos) 0 it acc env)) := by rfl
theorem turnW3_0 {prog : Program} {w : World} {A : Around} {elt t0 i0 t1 i1 t2 i2 : Expr} {ifs0 ifs1 ifs2 : List Expr} {scope : Scope} {pos : Pos} {acc : Value} {env : Env} (hs : ∀ x, foldedSetIterable i1 env x = pure x) :
    TurnW prog w A (.ListComp elt [⟨t0, i0, ifs0, 0⟩, ⟨t1, i1, ifs1, 0⟩, ⟨t2, i2, ifs2, 0⟩] scope pos) 0 t0 ifs0 acc env (nextW prog w A (.ListComp elt [⟨t0, i0, ifs0, 0⟩, ⟨t1, i1, ifs1, 0⟩, ⟨t2, i2, ifs2, 0⟩] scope pos) 1 i1 acc env) := by
  intro R s it I turn n h
  refine codeAny_loop rfl I (fun n s hI => ?_) n h
  show wpAny _ A ((compTurn (.ListComp elt [⟨t0, i0, ifs0, 0⟩, ⟨t1, i1, ifs1, 0⟩, ⟨t2, i2, ifs2, 0⟩] scope pos) 0 it acc env).onRaise (fun x => do noteFrame x env; theTreesLotGoes x)) _ _ s
  refine wpAny_noted ?_
  rw [cturn3_0]
  refine wpAny_bind (wpAny_standAt (wpAny_bind (monoF (turn n s hI) (fun r s₁ h₁ => ?_))))
  cases r with
  | none => exact wpAny_pure h₁
  | some v =>
    refine wpAny_bind (monoF h₁ (fun _ s₁' h₁' => ?_))
    refine wpAny_bind (monoF h₁' (fun _ s₂ h₂ => wpAny_bind (monoF h₂ (fun ok s₃ h₃ => ?_))))
    cases ok with
    | false => exact wpAny_pure ⟨rfl, h₃⟩
    | true =>
      refine wpAny_bind (monoF h₃ (fun x s₄ h₄ => ?_))
      refine wpAny_bind (wpAny_standAt (wpAny_bind (wpAny_of_eq (hs x) (wpAny_bind (wpAny_holding (monoF h₄ (fun it1 s₅ h₅ => ?_)))))))
      refine wpAny_bind (wpAny_runOwn ?_)
      rw [Around.mark_none]
      refine codeAny_mono h₅ fun r s' hr => ?_
      cases r with
      | ok f =>
        first
          | exact wpAny_pure ⟨rfl, hr⟩
          | exact wpAny_bind (wpAny_pure (wpAny_pure ⟨rfl, hr⟩))
      | error e => exact hr.elim
theorem cturn3_1 (elt t0 i0 t1 i1 t2 i2 : Expr) (ifs0 ifs1 ifs2 : List Expr) (scope : Scope) (pos : Pos) (it acc : Value) (env : Env) :
    compTurn (.ListComp elt [⟨t0, i0, ifs0, 0⟩, ⟨t1, i1, ifs1, 0⟩, ⟨t2, i2, ifs2, 0⟩] scope pos) 1 it acc env = (do
      standAt i1.pos
      match ← pyNext it with
      | none => pure (.done .next)
      | some v =>
        letOwnedTupleGo t1 it v
        assign t1 env v
        let mut ok := true
        for c in ifs1 do
          if ok then ok ← isTrue c env (eval c env)
        if ok then
          let x ← eval i2 env
          standAt i2.pos
          let x ← foldedSetIterable i2 env x
          let _ ← runOwn (.compStart (.ListComp elt [⟨t0, i0, ifs0, 0⟩, ⟨t1, i1, ifs1, 0⟩, ⟨t2, i2, ifs2, 0⟩] scope pos) 2 (← holding [x] (pyIter x)) acc env) env
        again (.compLoop (.ListComp elt [⟨t0, i0, ifs0, 0⟩, ⟨t1, i1, ifs1, 0⟩, ⟨t2, i2, ifs2, 0⟩] scope pos) 1 it acc env)) := by rfl
theorem turnW3_1 {prog : Program} {w : World} {A : Around} {elt t0 i0 t1 i1 t2 i2 : Expr} {ifs0 ifs1 ifs2 : List Expr} {scope : Scope} {pos : Pos} {acc : Value} {env : Env} (hs : ∀ x, foldedSetIterable i2 env x = pure x) :
    TurnW prog w A (.ListComp elt [⟨t0, i0, ifs0, 0⟩, ⟨t1, i1, ifs1, 0⟩, ⟨t2, i2, ifs2, 0⟩] scope pos) 1 t1 ifs1 acc env (nextW prog w A (.ListComp elt [⟨t0, i0, ifs0, 0⟩, ⟨t1, i1, ifs1, 0⟩, ⟨t2, i2, ifs2, 0⟩] scope pos) 2 i2 acc env) := by
  intro R s it I turn n h
  refine codeAny_loop rfl I (fun n s hI => ?_) n h
  show wpAny _ A ((compTurn (.ListComp elt [⟨t0, i0, ifs0, 0⟩, ⟨t1, i1, ifs1, 0⟩, ⟨t2, i2, ifs2, 0⟩] scope pos) 1 it acc env).onRaise (fun x => do noteFrame x env; theTreesLotGoes x)) _ _ s
  refine wpAny_noted ?_
  rw [cturn3_1]
  refine wpAny_bind (wpAny_standAt (wpAny_bind (monoF (turn n s hI) (fun r s₁ h₁ => ?_))))
  cases r with
  | none => exact wpAny_pure h₁
  | some v =>
    refine wpAny_bind (monoF h₁ (fun _ s₁' h₁' => ?_))
    refine wpAny_bind (monoF h₁' (fun _ s₂ h₂ => wpAny_bind (monoF h₂ (fun ok s₃ h₃ => ?_))))
    cases ok with
    | false => exact wpAny_pure ⟨rfl, h₃⟩
    | true =>
      refine wpAny_bind (monoF h₃ (fun x s₄ h₄ => ?_))
      refine wpAny_bind (wpAny_standAt (wpAny_bind (wpAny_of_eq (hs x) (wpAny_bind (wpAny_holding (monoF h₄ (fun it1 s₅ h₅ => ?_)))))))
      refine wpAny_bind (wpAny_runOwn ?_)
      rw [Around.mark_none]
      refine codeAny_mono h₅ fun r s' hr => ?_
      cases r with
      | ok f =>
        first
          | exact wpAny_pure ⟨rfl, hr⟩
          | exact wpAny_bind (wpAny_pure (wpAny_pure ⟨rfl, hr⟩))
      | error e => exact hr.elim
theorem startW3_1 {prog : Program} {w : World} {A : Around} {elt t0 i0 t1 i1 t2 i2 : Expr} {ifs0 ifs1 ifs2 : List Expr} {scope : Scope} {pos : Pos} {acc : Value} {env : Env} : StartW prog w A (.ListComp elt [⟨t0, i0, ifs0, 0⟩, ⟨t1, i1, ifs1, 0⟩, ⟨t2, i2, ifs2, 0⟩] scope pos) 1 acc env := by
  intro R s it h0 h
  refine codeAny_of_tree ?_
  show wpAny _ _ ((compStart (.ListComp elt [⟨t0, i0, ifs0, 0⟩, ⟨t1, i1, ifs1, 0⟩, ⟨t2, i2, ifs2, 0⟩] scope pos) 1 it acc env).onRaise (fun x => do noteFrame x env; standAt theWindowsPlace)) _ _ s
  refine wpAny_notedAt ?_
  unfold compStart
  show wpAny _ _ (ask >>= _) _ _ s
  refine wpAny_bind (wpAny_askSetting (wpAny_ite ?_))
  split
  · first
      | exact wpAny_bind (wpAny_pure (wpAny_pure (And.intro rfl h0)))
      | exact wpAny_pure (And.intro rfl h0)
  · first
      | exact wpAny_bind (wpAny_rule (wpAny_bind (wpAny_standAt (wpAny_bind (wpAny_mono h (fun it' s' h' => wpAny_pure (And.intro rfl h')) fun _ _ x => x)))))
      | (refine wpAny_bind (wpAny_rule ?_); show wpAny _ _ (standAt i1.pos >>= _) _ _ s; exact wpAny_bind (wpAny_standAt (wpAny_bind (wpAny_mono h (fun it' s' h' => wpAny_pure (And.intro rfl h')) fun _ _ x => x))))
theorem cturn3_2 (elt t0 i0 t1 i1 t2 i2 : Expr) (ifs0 ifs1 ifs2 : List Expr) (scope : Scope) (pos : Pos) (it acc : Value) (env : Env) :
    compTurn (.ListComp elt [⟨t0, i0, ifs0, 0⟩, ⟨t1, i1, ifs1, 0⟩, ⟨t2, i2, ifs2, 0⟩] scope pos) 2 it acc env = (do
      standAt i2.pos
      match ← pyNext it with
      | none => pure (.done .next)
      | some v =>
        letOwnedTupleGo t2 it v
        assign t2 env v
        let mut ok := true
        for c in ifs2 do
          if ok then ok ← isTrue c env (eval c env)
        if ok then
          (do let _ ← call (.builtin "list.append") [acc, ← eval elt env])
        again (.compLoop (.ListComp elt [⟨t0, i0, ifs0, 0⟩, ⟨t1, i1, ifs1, 0⟩, ⟨t2, i2, ifs2, 0⟩] scope pos) 2 it acc env)) := by rfl
theorem turnW3_2 {prog : Program} {w : World} {A : Around} {elt t0 i0 t1 i1 t2 i2 : Expr} {ifs0 ifs1 ifs2 : List Expr} {scope : Scope} {pos : Pos} {acc : Value} {env : Env} :
    TurnW prog w A (.ListComp elt [⟨t0, i0, ifs0, 0⟩, ⟨t1, i1, ifs1, 0⟩, ⟨t2, i2, ifs2, 0⟩] scope pos) 2 t2 ifs2 acc env (lastW prog w A elt acc env) := by
  intro R s it I turn n h
  refine codeAny_loop rfl I (fun n s hI => ?_) n h
  show wpAny _ A ((compTurn (.ListComp elt [⟨t0, i0, ifs0, 0⟩, ⟨t1, i1, ifs1, 0⟩, ⟨t2, i2, ifs2, 0⟩] scope pos) 2 it acc env).onRaise (fun x => do noteFrame x env; theTreesLotGoes x)) _ _ s
  refine wpAny_noted ?_
  rw [cturn3_2]
  refine wpAny_bind (wpAny_standAt (wpAny_bind (monoF (turn n s hI) (fun r s₁ h₁ => ?_))))
  cases r with
  | none => exact wpAny_pure h₁
  | some v =>
    refine wpAny_bind (monoF h₁ (fun _ s₁' h₁' => ?_))
    refine wpAny_bind (monoF h₁' (fun _ s₂ h₂ => wpAny_bind (monoF h₂ (fun ok s₃ h₃ => ?_))))
    cases ok with
    | false => exact wpAny_pure ⟨rfl, h₃⟩
    | true =>
      exact wpAny_bind (wpAny_bind (monoF h₃ (fun x s₄ h₄ => wpAny_bind (monoF h₄ (fun _ s₅ h₅ => wpAny_pure (wpAny_pure ⟨rfl, h₅⟩))))))
theorem startW3_2 {prog : Program} {w : World} {A : Around} {elt t0 i0 t1 i1 t2 i2 : Expr} {ifs0 ifs1 ifs2 : List Expr} {scope : Scope} {pos : Pos} {acc : Value} {env : Env} : StartW prog w A (.ListComp elt [⟨t0, i0, ifs0, 0⟩, ⟨t1, i1, ifs1, 0⟩, ⟨t2, i2, ifs2, 0⟩] scope pos) 2 acc env := by
  intro R s it h0 h
  refine codeAny_of_tree ?_
  show wpAny _ _ ((compStart (.ListComp elt [⟨t0, i0, ifs0, 0⟩, ⟨t1, i1, ifs1, 0⟩, ⟨t2, i2, ifs2, 0⟩] scope pos) 2 it acc env).onRaise (fun x => do noteFrame x env; standAt theWindowsPlace)) _ _ s
  refine wpAny_notedAt ?_
  unfold compStart
  show wpAny _ _ (ask >>= _) _ _ s
  refine wpAny_bind (wpAny_askSetting (wpAny_ite ?_))
  split
  · first
      | exact wpAny_bind (wpAny_pure (wpAny_pure (And.intro rfl h0)))
      | exact wpAny_pure (And.intro rfl h0)
  · first
      | exact wpAny_bind (wpAny_rule (wpAny_bind (wpAny_standAt (wpAny_bind (wpAny_mono h (fun it' s' h' => wpAny_pure (And.intro rfl h')) fun _ _ x => x)))))
      | (refine wpAny_bind (wpAny_rule ?_); show wpAny _ _ (standAt i2.pos >>= _) _ _ s; exact wpAny_bind (wpAny_standAt (wpAny_bind (wpAny_mono h (fun it' s' h' => wpAny_pure (And.intro rfl h')) fun _ _ x => x))))
/-- a body keeps what is known but for the slots vs -/
def BodyOk (Y : Cx) (b : BW) (vs : List Nat) (tb : BT) : Prop := ∀ (pins : List (Addr × Obj)) (s : Shared) (σ : L2.St) (H : Hp) (Nx : Hp → Prop), Inv Y pins σ H s → tb σ H Nx → b (fun s' => ∃ H', Inv Y pins (wipe σ vs) H' s' ∧ Nx H') s
/-- an item more -/
def tLast (te : TE) (D : Addr) : BT := fun σ H Nx => te σ H fun y H1 => ∃ acc, H1 D = some (.lst acc) ∧ acc.length < sizeLine ∧ Nx (upd H1 D (.lst (acc ++ [y])))
theorem last_ok {Y : Cx} {elt : Expr} {te : TE} {D : Addr} {env : Env} (he : PE Y elt te) (henv : Y.env = env) (hx : Y.xe = fun _ _ => False) : BodyOk Y (lastW Y.prog Y.w Y.A elt (.ref D) env) [] (tLast te D) := by
  subst henv
  intro pins s σ H Nx I h
  have hr := he.run pins s σ H _ I h
  rw [hx] at hr
  refine wpAny_mono hr (fun v s1 ⟨y, H1, I1, r, acc, hD, hz, q⟩ => ?_) fun _ _ z => z
  exact app_ok I1 hD hz r fun s' I' => ⟨_, I', q⟩
def tCl (wi : TI) (g : TG) (tt : TT) (tb : BT) (vs : List Nat) : BT := fun σ H Nx => wi σ H fun J H4 => ∃ W1 : Nat → Nat → Hp → Prop, (∃ m, W1 0 m H4) ∧ ∀ j k H, W1 j k H →
  (J.stop j H ∧ Nx H) ∨ (J.go j H ∧ ∃ Nx1 : Hp → Prop, (∀ H', Nx1 H' → ∃ k', k' < k ∧ W1 (j + 1) k' H') ∧ ∀ x H', J.yld j H x H' → g x (wipe σ vs) H' fun σ3 H5 => wipe σ3 vs = wipe σ vs ∧ tt σ3 H5 fun b H6 =>
    if b = true then tb σ3 H6 Nx1 else Nx1 H6)
theorem wipe_mono {σ : L2.St} {vs ws : List Nat} (h : ∀ i ∈ ws, i ∈ vs) {j : Nat} {v : V} (e : (wipe σ vs)[j]? = some (some v)) : (wipe σ ws)[j]? = some (some v) := by
  obtain ⟨e1, e2⟩ := wipe_some e
  rw [wipe_out fun z => e2 (h j z)]
  exact e1
theorem clause_ok {Y : Cx} {cmp t i : Expr} {ifs : List Expr} {idx : Nat} {D : Addr} {b : BW} {vs ws : List Nat} {tb : BT} {wi : TI} {g : TG} {tt : TT} {env : Env} (hc : Y.calm = true) (henv : Y.env = env) (hx : Y.xe = fun _ _ => False) (hi : PI Y t i wi) (hg : PG Y t g) (ht : PTs Y ifs tt) (hb : BodyOk Y b ws tb) (hw : ∀ i ∈ ws, i ∈ vs)
    (hm : ∀ (P P' : Shared → Prop) (s : Shared), b P s → (∀ s, P s → P' s) → b P' s)
    (tu : TurnW Y.prog Y.w Y.A cmp idx t ifs (.ref D) env b) (st : StartW Y.prog Y.w Y.A cmp idx (.ref D) env) : BodyOk Y (nextW Y.prog Y.w Y.A cmp idx i (.ref D) env) vs (tCl wi g tt tb vs) := by
  subst henv
  intro pins s σ H Nx I h
  have hr := hi.run pins s σ H _ I h
  rw [hx] at hr
  refine wpAny_mono hr (fun xv s1 hx1 => ?_) fun _ _ z => z
  refine wpAny_mono hx1 (fun itv s2 h2 => ?_) fun _ _ z => z
  obtain ⟨it, fp, tn, J, H2, e, I2, T, st2, f2, W1, ⟨m1, w1⟩, turn1⟩ := h2
  subst e
  have stat : ∀ {H' : Hp}, (∀ b ∈ fp, H' b = none) → ∀ b ∈ fp, FpOk Y pins H' b := fun hn b hb => ⟨hn b hb, (f2 b hb).2⟩
  have loop1 : codeAny (model Y.prog Y.w) Y.A (.compLoop cmp idx (.ref it) (.ref D) Y.env) (fun r s' => match r with
      | .ok _ => ∃ H', Inv Y pins (wipe σ vs) H' s' ∧ Nx H'
      | .error _ => False) s2 := by
    refine tu _ _ _ (fun k s' => ∃ j H', Inv Y pins (wipe σ vs) H' s' ∧ tn j s'.heap ∧ (∀ b ∈ fp, H' b = none) ∧ W1 j k H') ?_ m1 ⟨0, H2, I2.weak (wipe_length _ _) (fun j v e => (wipe_some e).1), st2, fun b hb => (f2 b hb).1, w1⟩
    rintro k s12 ⟨j, H12, I12, st12, n12, w12⟩
    rcases turn1 j k H12 w12 with ⟨stop1, nx1⟩ | ⟨go1, Nx1, hNx1, step1⟩
    · refine thnF (T.done Y rfl rfl rfl hc j _ s12 (wipe σ vs) H12 (fun _ _ => False) I12 (stat n12) st12 stop1) fun r s13 ⟨hr, I13⟩ => ?_
      subst hr
      exact ⟨H12, I13, nx1⟩
    · refine thnF (T.item Y rfl rfl rfl hc j _ s12 (wipe σ vs) H12 (fun _ _ => False) I12 (stat n12) st12 go1) fun r s13 ⟨u1, hr, h13⟩ => ?_
      subst hr
      refine thnF h13 fun _ s14 ⟨x1, H14, I14, r14, y14, st14, n14⟩ => ?_
      have I14' := I14.pinned (stat n14) (T.obj _ _ st14)
      have hpg := hg.run _ s14 (wipe σ vs) H14 x1 u1 _ I14' r14 (step1 x1 H14 y14)
      rw [hx] at hpg
      refine thnF hpg fun _ s15 ⟨σ15, H15, I15, hw15, q15⟩ => ?_
      have hpt := ht.run _ s15 σ15 H15 _ I15 q15
      rw [hx] at hpt
      refine thnF hpt fun b1 s16 ⟨H16, I16, q16⟩ => ?_
      have fin1 : ∀ {s' : Shared} {H' : Hp} {σ' : L2.St}, Inv Y (pins ++ pinsAt fp s14.heap) σ' H' s' → (wipe σ vs).length = σ'.length → (∀ (j : Nat) v, (wipe σ vs)[j]? = some (some v) → σ'[j]? = some (some v)) → Nx1 H' → ∃ m, m < k ∧ ∃ j H', Inv Y pins (wipe σ vs) H' s' ∧ tn j s'.heap ∧ (∀ b ∈ fp, H' b = none) ∧ W1 j m H' := fun {s' H' σ'} I' hl hk nx => by
        obtain ⟨m', hm, w'⟩ := hNx1 H' nx
        have pin' : ∀ b ∈ fp, ∀ o, s14.heap.get? b = some o → s'.heap.get? b = some o ∧ H' b = none := fun b hb o e =>
          let z := I'.pin (b, o) (List.mem_append_right _ (List.mem_append_right _ (mem_pinsAt hb e)))
          ⟨z.1, z.2.1⟩
        refine ⟨m', hm, j + 1, H', I'.unpinned.weak hl hk, T.keep _ _ _ st14 fun b hb o e => (pin' b hb o e).1, fun b hb => ?_, w'⟩
        obtain ⟨o, e, _⟩ := T.obj _ _ st14 b hb
        exact (pin' b hb o e).2
      have hl15 : (wipe σ vs).length = σ15.length := by rw [← hw15, wipe_length]
      cases b1 with
      | false =>
        simp only [Bool.false_eq_true, if_false] at q16 ⊢
        exact fin1 I16 hl15 (fun j v e => by rw [← hw15] at e; exact (wipe_some e).1) q16
      | true =>
        simp only [if_true] at q16 ⊢
        refine hm _ _ _ (hb _ s16 σ15 H16 _ I16 q16) fun s17 ⟨H17, I17, nx⟩ => ?_
        refine fin1 I17 (hl15.trans (wipe_length σ15 ws).symm) (fun j v e => ?_) nx
        rw [← hw15] at e
        exact wipe_mono hw e
  refine st _ _ _ loop1 ?_
  exact T.self Y.A 0 s2 (fun it' s' => codeAny (model Y.prog Y.w) Y.A (.compLoop cmp idx it' (.ref D) Y.env) (fun r s' => match r with
      | .ok _ => ∃ H', Inv Y pins (wipe σ vs) H' s' ∧ Nx H'
      | .error _ => False) s') _ st2 loop1
theorem next_mono {prog : Program} {w : World} {A : Around} {cmp : Expr} {idx : Nat} {i : Expr} {acc : Value} {env : Env} (P P' : Shared → Prop) (s : Shared) (h : nextW prog w A cmp idx i acc env P s) (hP : ∀ s, P s → P' s) : nextW prog w A cmp idx i acc env P' s :=
  wpAny_mono h (fun _ _ h => wpAny_mono h (fun _ _ h => codeAny_mono h fun r s' hr => by
    cases r with
    | ok f => exact hP _ hr
    | error e => exact hr) fun _ _ z => z) fun _ _ z => z
theorem lastW_mono {prog : Program} {w : World} {A : Around} {elt : Expr} {acc : Value} {env : Env} (P P' : Shared → Prop) (s : Shared) (h : lastW prog w A elt acc env P s) (hP : ∀ s, P s → P' s) : lastW prog w A elt acc env P' s :=
  wpAny_mono h (fun _ _ h => wpAny_mono h (fun _ s h => hP s h) fun _ _ z => z) fun _ _ z => z
section
variable {X : Cx}
/-- the first clause -/
def tLcN (wi : TI) (g : TG) (tt : TT) (tb : Addr → BT) (vs : List Nat) : TE := fun σ H Q => wi σ H fun J H1 => ∀ D, H1 D = none → ∃ W : Nat → Nat → Hp → Prop, (∃ m, W 0 m (upd H1 D (.lst []))) ∧ ∀ i m H, W i m H →
  (J.stop i H ∧ Q (.ref D) H) ∨ (J.go i H ∧ ∃ Nx : Hp → Prop, (∀ H', Nx H' → ∃ m', m' < m ∧ W (i + 1) m' H') ∧ ∀ x H', J.yld i H x H' → g x (wipe σ vs) H' fun σ2 H2 => wipe σ2 vs = wipe σ vs ∧ tt σ2 H2 fun b H3 =>
    if b = true then tb D σ2 H3 Nx else Nx H3)
theorem lcN_core {pins : List (Addr × Obj)} {s : Shared} {σ : L2.St} {H : Hp} {Q : VK} {elt tg iter : Expr} {ifs : List Expr} {cls : List Comprehension} {scope : Scope} {own : List (Str × Nat)} {ws : List Nat} {pos pos' : Pos} {wi : TI} {g : TG} {tt : TT} {tb : Addr → BT} {bb : Env → Value → BW} {use : Option (Value → PySem.Sem Unit)} {Qf : Value → Shared → Prop} {cmp : Expr}
    (hcmp : cmp = .ListComp elt (⟨tg, iter, ifs, 0⟩ :: cls) scope pos) (hc : X.calm = true) (hN : X.N.Nodup) (I : Inv X pins σ H s) (hi : PI X tg iter wi) (ok : BlkOk X.N X.env.scope scope own) (hv : ∀ i ∈ ws, i ∈ own.map (·.2))
    (hg : ∀ (s : Shared) (H : Hp) (C : Addr) (cl : List (Str × Addr)) (fp : List Addr), PG (X.blk s H scope (compEnvC scope cl C X.env) fp) tg g) (ht : ∀ (s : Shared) (H : Hp) (C : Addr) (cl : List (Str × Addr)) (fp : List Addr), PTs (X.blk s H scope (compEnvC scope cl C X.env) fp) ifs tt)
    (hb : ∀ (s : Shared) (H : Hp) (C : Addr) (cl : List (Str × Addr)) (fp : List Addr) (D : Addr), BodyOk (X.blk s H scope (compEnvC scope cl C X.env) fp) (bb (compEnvC scope cl C X.env) (.ref D)) ws (tb D)) (hs : ∀ x, foldedSetIterable iter X.env x = pure x)
    (hm : ∀ env acc (P P' : Shared → Prop) (s : Shared), bb env acc P s → (∀ s, P s → P' s) → bb env acc P' s)
    (htu : ∀ env D, TurnW X.prog X.w X.A cmp 0 tg ifs (.ref D) env (bb env (.ref D)))
    (h : tLcN wi g tt tb (own.map (·.2)) σ H Q)
    (hRR : ∀ D C s' m H', Inv X pins σ H' s' → Q (.ref D) H' → s'.heap.Ns C m → FpOk X pins H' C → compPost (model X.prog X.w) X.A X.xe use Qf (.ref D) C (.ok .next) s') :
    wpAny (model X.prog X.w) X.A (comprehension cmp scope X.env pos' (newList []) false (eval iter X.env) use) Qf X.xe s := by
  have hfree : ∀ y ∈ scope.names, y.2 = .free → ∃ c, X.env.cells.lookup y.1 = some c := fun y hy e => by
    rcases ok.free y hy e with k | k
    · exact I.ok.has _ (.inl k)
    · exact I.ok.has _ (.inr k)
  subst hcmp
  refine wpAny_comprehension_free (use := use) rfl hs (closure_ok hfree) ok.kind (fun y hy e => by rw [ok.uniq y hy, e])
    (thn (hi.run pins s σ H _ I h) fun xv s1 hx => thn hx fun itv s2 h2 => ?_)
  obtain ⟨it, fp, tn, J, H2, e, I2, T, st2, f2, q⟩ := h2
  subst e
  refine wpAny_newObj_type (newEnv_comp ?_) (by show 0 ≤ sizeLine; decide)
  generalize hD : s2.heap.objs.size = D
  have hDn : H2 D = none := I2.hok.fresh (Nat.le_of_eq hD)
  obtain ⟨W, ⟨m0, w0⟩, turn⟩ := q D hDn
  -- the new list
  generalize hs3 : ({ s2 with heap := s2.heap.push { cls := .type "list", data := .seq ([] : List Value).toArray } } : Shared) = s3
  have I3 : Inv X pins σ (upd H2 D (.lst [])) s3 := by
    rw [← hs3]
    refine I2.laid (t' := s2.toks) (fun b o e => Heap.get?_push_of_some _ e) (Nat.le_of_eq hD) ⟨Nat.zero_le _, [], 0, .nil, ?_⟩
    rw [← hD]
    exact Heap.get?_push_size _ rfl
  have h3 : s3.heap = s2.heap.push { cls := .type "list", data := .seq ([] : List Value).toArray } := by rw [← hs3]
  have sz : ∀ b ∈ fp, b < s2.heap.objs.size := fun b hb => by
    obtain ⟨o, e, _⟩ := T.obj _ _ st2 b hb
    exact Heap.lt_size e
  have f3 : ∀ b ∈ fp, FpOk X pins (upd H2 D (.lst [])) b ∧ b < s3.heap.objs.size := fun b hb => by
    have hlt := sz b hb
    refine ⟨⟨?_, (f2 b hb).2⟩, by rw [h3, Heap.size_push]; exact Nat.lt_succ_of_lt hlt⟩
    rw [upd_ne (by rw [← hD]; exact Nat.ne_of_lt hlt)]
    exact (f2 b hb).1
  have st3 : tn 0 s3.heap := T.keep _ _ _ st2 fun b _ o e => by rw [h3]; exact Heap.get?_push_of_some _ e
  have I4 := block_start I3 ok hN f3
  have pg := hg s3 (upd H2 D (.lst [])) s3.heap.objs.size (cellsFrom (s3.heap.objs.size + 1) scope.names (cloFrom X.env.cells scope.names [])) fp
  have pb := hb s3 (upd H2 D (.lst [])) s3.heap.objs.size (cellsFrom (s3.heap.objs.size + 1) scope.names (cloFrom X.env.cells scope.names [])) fp D
  have tu := htu (compEnvC scope (cellsFrom (s3.heap.objs.size + 1) scope.names (cloFrom X.env.cells scope.names [])) s3.heap.objs.size X.env) D
  have pt := ht s3 (upd H2 D (.lst [])) s3.heap.objs.size (cellsFrom (s3.heap.objs.size + 1) scope.names (cloFrom X.env.cells scope.names [])) fp
  show codeAny _ _ (.compStart (.ListComp elt (⟨tg, iter, ifs, 0⟩ :: cls) scope pos) 0 (.ref it) (.ref D) (compEnvC scope (cellsFrom (s3.heap.objs.size + 1) scope.names (cloFrom X.env.cells scope.names [])) s3.heap.objs.size X.env)) (compPost (model X.prog X.w) X.A X.xe use Qf (.ref D) s3.heap.objs.size) { s3 with heap := pushCells (s3.heap.push { cls := .type "dict", data := .dict #[] }) scope.names }
  have nfp : ∀ b ∈ fp, (upd H2 D (.lst [])) b = none := fun b hb => (f3 b hb).1.1
  generalize hce : compEnvC scope (cellsFrom (s3.heap.objs.size + 1) scope.names (cloFrom X.env.cells scope.names [])) s3.heap.objs.size X.env = ce at I4 pg pt pb tu ⊢
  have cL : ce.locals = s3.heap.objs.size := by subst hce; rfl
  generalize hH3 : upd H2 D (.lst []) = H3 at I3 I4 pg pt pb w0 nfp f3
  generalize hs4 : ({ s3 with heap := pushCells (s3.heap.push { cls := .type "dict", data := .dict #[] }) scope.names } : Shared) = s4 at I4 ⊢
  have st4 : tn 0 s4.heap := T.keep _ _ _ st3 fun b _ o e => by rw [← hs4]; exact pushCells_keeps _ _ _ _ (Heap.get?_push_of_some _ e)
  have stat : ∀ {σ' : L2.St} {H' : Hp} {s' : Shared}, Inv (X.blk s3 H3 scope ce fp) [] σ' H' s' → (∀ b ∈ fp, H' b = none) → ∀ b ∈ fp, FpOk (X.blk s3 H3 scope ce fp) [] H' b := fun {σ' H' s'} I' hn b hb =>
    ⟨hn b hb, (I'.ok.exf b hb).1, I'.ok.exfs b hb, .inl hb, fun x c e => (I'.ok.exf b hb).2 x c e, fun p hp => absurd (show p ∈ ([] : List (Addr × Obj)) ++ [] from hp) (by simp)⟩
  have loop : codeAny (model X.prog X.w) X.A (.compLoop (.ListComp elt (⟨tg, iter, ifs, 0⟩ :: cls) scope pos) 0 (.ref it) (.ref D) ce) (compPost (model X.prog X.w) X.A X.xe use Qf (.ref D) s3.heap.objs.size) s4 := by
    refine tu _ _ _ (fun n s' => ∃ i H', Inv (X.blk s3 H3 scope ce fp) [] (wipe σ (own.map (·.2))) H' s' ∧ tn i s'.heap ∧ (∀ b ∈ fp, H' b = none) ∧ W i n H') ?_ m0 ⟨0, H3, I4, st4, nfp, w0⟩
    rintro n s5 ⟨i, H5, I5, st5, n5, w5⟩
    rcases turn i n H5 w5 with ⟨stop, qq⟩ | ⟨go, Nx, hNx, step⟩
    · have td := T.done (X.blk s3 H3 scope ce fp) rfl rfl rfl hc i [] s5 _ H5 (fun _ _ => False) I5 (stat I5 n5) st5 stop
      refine thnF td fun r s6 ⟨hr, I6⟩ => ?_
      subst hr
      -- back in the def's context
      have I7 : Inv X pins σ H5 s6 := I3.call' (ch := fp) I6.os I6.base I6.hok I6.bare fun b hb => ⟨(f3 b hb).1.2.2.2.1, (f3 b hb).1.2.1, (f3 b hb).1.2.2.2.2.1, (f3 b hb).1.2.2.2.2.2⟩
      have nC : H5 s3.heap.objs.size = none := by
        have z : H5 ce.locals = none := I6.free
        rw [cL] at z
        exact z
      obtain ⟨m, hn, _⟩ := I6.loc
      have hn : s6.heap.Ns ce.locals m := hn
      rw [cL] at hn
      exact hRR D s3.heap.objs.size s6 m H5 I7 qq hn (I3.fpOk (Nat.le_refl _) nC)
    · have ti := T.item (X.blk s3 H3 scope ce fp) rfl rfl rfl hc i [] s5 _ H5 (fun _ _ => False) I5 (stat I5 n5) st5 go
      refine thnF ti fun r s6 ⟨u, hr, h6⟩ => ?_
      subst hr
      refine thnF h6 fun _ s7 ⟨x, H7, I7, r7, y7, st7, n7⟩ => ?_
      have I7' := I7.pinned (stat I7 n7) (T.obj _ _ st7)
      refine thnF (pg.run _ s7 _ H7 x u _ I7' r7 (step x H7 y7)) fun _ s8 ⟨σ8, H8, I8, hw8, q8⟩ => ?_
      refine thnF (pt.run _ s8 σ8 H8 _ I8 q8) fun b s9 ⟨H9, I9, q9⟩ => ?_
      -- the turn's end, from any slots that know what the block knew at its start
      have fin : ∀ {σ9 : L2.St} {s' : Shared} {H' : Hp}, Inv (X.blk s3 H3 scope ce fp) ([] ++ pinsAt fp s7.heap) σ9 H' s' → (wipe σ (own.map (·.2))).length = σ9.length → (∀ (j : Nat) v, (wipe σ (own.map (·.2)))[j]? = some (some v) → σ9[j]? = some (some v)) → Nx H' →
          ∃ m, m < n ∧ ∃ i H', Inv (X.blk s3 H3 scope ce fp) [] (wipe σ (own.map (·.2))) H' s' ∧ tn i s'.heap ∧ (∀ b ∈ fp, H' b = none) ∧ W i m H' := fun {σ9 s' H'} I' hl hk nx => by
        obtain ⟨m', hm, w'⟩ := hNx H' nx
        have pin' : ∀ b ∈ fp, ∀ o, s7.heap.get? b = some o → s'.heap.get? b = some o ∧ H' b = none := fun b hb o e =>
          let z := I'.pin (b, o) (List.mem_append_right _ (List.mem_append_right _ (mem_pinsAt hb e)))
          ⟨z.1, z.2.1⟩
        refine ⟨m', hm, i + 1, H', (I'.unpinned (pins := [])).weak hl hk, T.keep _ _ _ st7 fun b hb o e => (pin' b hb o e).1, fun b hb => ?_, w'⟩
        obtain ⟨o, e, _⟩ := T.obj _ _ st7 b hb
        exact (pin' b hb o e).2
      have hl8 : (wipe σ (own.map (·.2))).length = σ8.length := by rw [← hw8, wipe_length]
      have hk8 : ∀ (j : Nat) v, (wipe σ (own.map (·.2)))[j]? = some (some v) → σ8[j]? = some (some v) := fun j v e => by
        rw [← hw8] at e
        exact (wipe_some e).1
      have hk9 : ∀ (j : Nat) v, (wipe σ (own.map (·.2)))[j]? = some (some v) → (wipe σ8 ws)[j]? = some (some v) := fun j v e => by
        rw [← hw8] at e
        obtain ⟨e1, e2⟩ := wipe_some e
        rw [wipe_out fun z => e2 (hv j z)]
        exact e1
      cases b with
      | false =>
        simp only [Bool.false_eq_true, if_false] at q9 ⊢
        exact fin I9 hl8 hk8 q9
      | true =>
        simp only [if_true] at q9 ⊢
        refine hm _ _ _ _ _ (pb _ s9 σ8 H9 _ I9 q9) fun s10 ⟨H10, I10, nx⟩ => ?_
        exact fin I10 (hl8.trans (wipe_length σ8 ws).symm) hk9 nx
  exact codeAny_compStart_list loop (T.self X.A 0 _ _ _ st4 loop)
end
end Mi
set_option Elab.async false
set_option linter.all false
set_option maxRecDepth 100000
set_option maxHeartbeats 4000000
/-! Mn: comprehensions of more clauses, dicts with keys of any depth, copies: in the small language. -/
namespace Mi
open PySem PySem.Spec PyProof.Rows L2 RZ
/-- what a body of a clause is to reach -/
def postB (K : PySem.W.Frag) (mg : Str → Option Value) (T : TW) (D : Addr) (ι Z : List Addr) (H : Hp) (r : Option (List Mi.D × List Mo)) (Nx : Hp → Prop) : Prop := match r with
  | none => False
  | some (acc, μ) => ∀ ι' H' av, Ext ι [D] H ι' H' → RG K mg T ι' (D :: Z) H' μ → H' D = some (.lst av) → Rps K mg ι' (D :: Z) H' acc av → Nx H'
def tB (K : PySem.W.Frag) (mg : Str → Option Value) (T : TW) (f : List Sl → List Mi.D → List Mo → Option (List Mi.D × List Mo)) (D : Addr) : BT := fun σ H Nx =>
  ∃ ι Z Zf μ δ acc av, RG K mg T ι (D :: Z) H μ ∧ SR K mg ι (D :: Z) Zf H δ σ ∧ D ∉ Zf ∧ H D = some (.lst av) ∧ Rps K mg ι (D :: Z) H acc av ∧ postB K mg T D ι Z H (f δ acc μ) Nx
section
variable {K : PySem.W.Frag} {mg : Str → Option Value} {T : TW} {ι Z Zf ι' : List Addr} {H H' : Hp} {μ : List Mo} {δ : List Sl} {σ : L2.St} {D : Addr}
theorem SR.extD (g : RG K mg T ι (D :: Z) H μ) (s : SR K mg ι (D :: Z) Zf H δ σ) (hD : D ∉ Zf) (e : Ext ι [D] H ι' H') : SR K mg ι' (D :: Z) Zf H' δ σ := by
  refine ⟨s.len, fun i x hx => ?_, s.apart, s.sub⟩
  have h := s.ok i x hx
  have sub : ∀ z ∈ [D], z ∈ D :: Z := by simp
  cases x with
  | un => trivial
  | d x => obtain ⟨v, h1, h2⟩ := h; exact ⟨v, h1, Rp.ext e sub (fun z q => .inl q) x v h2⟩
  | lin xs =>
    obtain ⟨a, vs, h1, h2, h3, h4⟩ := h
    refine ⟨a, vs, h1, h2, e.keep a _ h3 (g.zl a (s.sub a h2)).2 (fun z => hD ?_) (fun _ z => by cases z), Rps.ext e sub (fun z q => .inl q) _ _ h4⟩
    rw [← List.mem_singleton.mp z]; exact h2
theorem postB.mono {r : Option (List Mi.D × List Mo)} {Nx : Hp → Prop} {ι1 : List Addr} {H1 : Hp} (h : postB K mg T D ι Z H r Nx) (e : Ext ι [D] H ι1 H1) : postB K mg T D ι1 Z H1 r Nx := by
  match r, h with
  | some (acc, μ), h => exact fun ι' H' av e' => h ι' H' av (e.trans e' fun z q => .inl q)
theorem Ext.up {ι Zf : List Addr} {H : Hp} {ι' : List Addr} {H' : Hp} (e : Ext ι [] H ι' H') : Ext ι Zf H ι' H' := e.mono (by simp)
end
section
variable {X : Cx} {T : TW} {W : WX} {pos : Pos}
theorem to_last {ce : E} {D : Addr} {σ : L2.St} {H : Hp} {Nx : Hp → Prop} (h : tB X.K X.mg T (oneL (ev ce)) D σ H Nx) : tLast (tE X.K X.mg T WF ce) D σ H Nx := by
  obtain ⟨ι, Z, Zf, μ, δ, acc, av, g, sr, hDZ, hD, ra, hp⟩ := h
  unfold oneL at hp
  cases h3 : noE (ev ce δ μ) with
  | none => rw [h3] at hp; exact hp.elim
  | some r =>
    obtain ⟨q, μ4⟩ := r
    rw [h3] at hp
    simp only [Option.bind_some] at hp
    split at hp
    · rename_i hl
      refine ⟨ι, D :: Z, Zf, μ, δ, g, sr, noE_post h3 fun ι6 y6 H6 e6 g6 r6 => ?_⟩
      have hD6 : H6 D = some (.lst av) := e6.keep D _ hD (g.zl D (List.mem_cons_self ..)).2 (by simp) (fun _ z => by cases z)
      have ra6 := ra.ext0 e6
      have eU := ext_updZ (ι := ι6) (ws := av ++ [y6]) hD6
      have sub : ∀ z ∈ [D], z ∈ D :: Z := by simp
      refine ⟨av, hD6, by rw [← ra.length]; exact hl, hp ι6 _ (av ++ [y6]) (e6.up.trans eU fun z q => .inl q) (g6.updZ (List.mem_cons_self ..) hD6) upd_same ?_⟩
      exact Rps.append (Rps.ext eU sub (fun z q => .inl q) _ _ ra6) ⟨y6, [], rfl, Rp.ext eU sub (fun z q => .inl q) _ _ r6, rfl⟩
    · exact hp.elim
theorem cl_it {J : L2.It} {n : Nat} {G : Hp → Prop} {Y : Nat → Hp → V → Hp → Prop} (w : L2.Walk J n G Y) {g : TG} {tt : TT} {tb : BT} {vs : List Nat} {σ : L2.St} {H4 : Hp} {Nx : Hp → Prop} (Pv : Nat → Hp → Prop) (h0 : Pv 0 H4) (hG : ∀ i H, i ≤ n → Pv i H → G H)
    (hs : ∀ i x H H', i < n → Pv i H → Y i H x H' → g x (wipe σ vs) H' fun σ2 H2 => wipe σ2 vs = wipe σ vs ∧ tt σ2 H2 fun b H3 => if b = true then tb σ2 H3 (Pv (i + 1)) else Pv (i + 1) H3) (hd : ∀ H, Pv n H → Nx H) :
    ∃ W1 : Nat → Nat → Hp → Prop, (∃ m, W1 0 m H4) ∧ ∀ j k H, W1 j k H →
      (J.stop j H ∧ Nx H) ∨ (J.go j H ∧ ∃ Nx1 : Hp → Prop, (∀ H', Nx1 H' → ∃ k', k' < k ∧ W1 (j + 1) k' H') ∧ ∀ x H', J.yld j H x H' → g x (wipe σ vs) H' fun σ3 H5 => wipe σ3 vs = wipe σ vs ∧ tt σ3 H5 fun b H6 =>
        if b = true then tb σ3 H6 Nx1 else Nx1 H6) := by
  refine ⟨fun i m H => m = n - i ∧ i ≤ n ∧ Pv i H, ⟨n, by simp, Nat.zero_le _, h0⟩, ?_⟩
  rintro i m H ⟨rfl, hi, p⟩
  have q := hG i H hi p
  by_cases hlt : i < n
  · refine .inr ⟨w.goes i H hlt q, Pv (i + 1), fun H' p' => ⟨n - (i + 1), by omega, rfl, hlt, p'⟩, fun x H' y => hs i x H H' hlt p (w.yields i H x H' hlt q y)⟩
  · have e : i = n := by omega
    subst e
    exact .inl ⟨w.stops H q, hd H p⟩
/-- a turn of a clause -/
theorem cl_turn {ct : Tg} {cc : E} {vs : List Nat} {f : List Sl → List Mi.D → List Mo → Option (List Mi.D × List Mo)} {D : Addr} (hsl : ∀ i ∈ ct.slots, i ∈ vs) {σ σv : L2.St} (hσv : σv = wipe σ vs) {ι Z Zf : List Addr} {H3 : Hp} {μ : List Mo} {δ : List Sl} {acc : List Mi.D} {av : List V} {d : Mi.D} {ds : List Mi.D} {x : V} {Nx1 : Hp → Prop} {Q : List Addr → Hp → Option (List Mi.D × List Mo) → Prop}
    (g : RG X.K X.mg T ι (D :: Z) H3 μ) (sr : SR X.K X.mg ι (D :: Z) Zf H3 δ σ) (hDZ : D ∉ Zf) (hD : H3 D = some (.lst av)) (ra : Rps X.K X.mg ι (D :: Z) H3 acc av) (rd : Rp X.K X.mg ι (D :: Z) H3 d x)
    (hq : Q ι H3 (clsL ct (ev cc) f (wipeS δ vs) (d :: ds) acc μ)) (hQ : ∀ ι H, ¬ Q ι H none)
    (hn : ∀ ι' H' acc' μ' av', Ext ι [D] H3 ι' H' → RG X.K X.mg T ι' (D :: Z) H' μ' → H' D = some (.lst av') → Rps X.K X.mg ι' (D :: Z) H' acc' av' → Q ι H3 (clsL ct (ev cc) f (wipeS δ vs) ds acc' μ') → Nx1 H') :
    gT X.K X.mg T ct x (wipe σ vs) H3 fun σ3 H5 => wipe σ3 vs = wipe σ vs ∧ tT X.K X.mg T WF cc σ3 H5 fun b H6 => if b = true then tB X.K X.mg T f D σ3 H6 Nx1 else Nx1 H6 := by
  unfold clsL at hq
  cases h1 : ct.put d (wipeS δ vs) with
  | none => rw [h1] at hq; exact absurd hq (hQ _ _)
  | some δ1 =>
    rw [h1] at hq
    simp only [Option.bind_some] at hq
    cases h2 : noE (ev cc δ1 μ) with
    | none => rw [h2] at hq; exact absurd hq (hQ _ _)
    | some r =>
      obtain ⟨k, μ3⟩ := r
      rw [h2] at hq
      simp only [Option.bind_some] at hq
      refine ⟨ι, D :: Z, Zf, wipeS δ vs, d, δ1, sr.wipe vs, rd, h1, fun σ2 sr4 hw => ⟨by rw [hw vs hsl]; exact wipe_wipe σ vs, ?_⟩⟩
      cases k with
      | bl k =>
        refine ⟨ι, D :: Z, Zf, μ, δ1, g, sr4, ?_⟩
        have h2' : noE (evT cc δ1 μ) = some (k, μ3) := by
          unfold evT
          match hq : ev cc δ1 μ, h2 with
          | some (.ok (.bl k'), μ'), h2 => simp only [noE, Option.some.injEq, Prod.mk.injEq, Mi.D.bl.injEq] at h2; obtain ⟨rfl, rfl⟩ := h2; rfl
        refine noE_post h2' fun ι5 b H5 e5 g5 hb => ?_
        subst hb
        have hD5 : H5 D = some (.lst av) := e5.keep D _ hD (g.zl D (List.mem_cons_self ..)).2 (by simp) (fun _ z => by cases z)
        cases k with
        | false => exact iteF (hn ι5 H5 acc μ3 av e5.up g5 hD5 (ra.ext0 e5) hq)
        | true =>
          simp only at hq
          refine iteT ⟨ι5, Z, Zf, μ3, δ1, acc, av, g5, sr4.ext g e5, hDZ, hD5, ra.ext0 e5, ?_⟩
          cases h3 : f δ1 acc μ3 with
          | none => rw [h3] at hq; exact absurd hq (hQ _ _)
          | some r =>
            obtain ⟨acc', μ4⟩ := r
            rw [h3] at hq
            exact fun ι' H' av' e' g' hD' r' => hn ι' H' acc' μ4 av' (e5.up.trans e' fun z q => .inl q) g' hD' r' hq
      | _ => exact absurd hq (hQ _ _)
theorem to_clause {ct : Tg} {ci : It} {cc : E} {vs : List Nat} {f : List Sl → List Mi.D → List Mo → Option (List Mi.D × List Mo)} {D : Addr} (hsl : ∀ i ∈ ct.slots, i ∈ vs) {σ : L2.St} {H : Hp} {Nx : Hp → Prop}
    (h : tB X.K X.mg T (fun δ acc μ => (noE (evi ci δ μ)).bind fun r => clsL ct (ev cc) f (wipeS δ vs) r.1 acc r.2) D σ H Nx) :
    tCl (tI X.K X.mg T WF ci) (gT X.K X.mg T ct) (tT X.K X.mg T WF cc) (tB X.K X.mg T f D) vs σ H Nx := by
  obtain ⟨ι, Z, Zf, μ, δ, acc, av, g, sr, hDZ, hD, ra, hp⟩ := h
  cases h3 : noE (evi ci δ μ) with
  | none => simp only [h3, Option.bind_none] at hp; exact hp.elim
  | some r =>
    obtain ⟨xs, μ1⟩ := r
    simp only [h3, Option.bind_some] at hp
    refine ⟨ι, D :: Z, Zf, μ, δ, g, sr, noE_post h3 fun ι1 J H1 e1 g1 wk => ?_⟩
    obtain ⟨G, Y, wlk, hG, hY⟩ := wk
    have sr1 := sr.ext g e1
    have hD1 : H1 D = some (.lst av) := e1.keep D _ hD (g.zl D (List.mem_cons_self ..)).2 (by simp) (fun _ z => by cases z)
    have ra1 := ra.ext0 e1
    have hp1 := hp.mono e1.up
    have sub : ∀ z ∈ [D], z ∈ D :: Z := by simp
    refine cl_it wlk (fun i H2 => ∃ ι2 μ2 acc2 av2, Ext ι1 [D] H1 ι2 H2 ∧ RG X.K X.mg T ι2 (D :: Z) H2 μ2 ∧ H2 D = some (.lst av2) ∧ Rps X.K X.mg ι2 (D :: Z) H2 acc2 av2 ∧ postB X.K X.mg T D ι1 Z H1 (clsL ct (ev cc) f (wipeS δ vs) (xs.drop i) acc2 μ2) Nx)
      ⟨ι1, μ1, acc, av, Ext.refl, g1, hD1, ra1, by simpa using hp1⟩ (fun i H2 _ ⟨ι2, μ2, acc2, av2, e2, _⟩ => hG ι2 [D] H2 e2 sub) ?_ ?_
    · rintro i x H2 H3 hi ⟨ι2, μ2, acc2, av2, e2, g2, hD2, ra2, hp2⟩ y
      obtain ⟨d, hd⟩ : ∃ d, xs[i]? = some d := ⟨xs[i], List.getElem?_eq_getElem hi⟩
      obtain ⟨hh, rd⟩ := hY i d ι2 [D] (D :: Z) H2 H3 x hd e2 sub (fun z q => .inl q) y
      have st3 : Ext ι2 [] H2 ι2 H3 ∧ RG X.K X.mg T ι2 (D :: Z) H3 μ2 ∧ H3 D = some (.lst av2) := by
        rcases hh with rfl | ⟨p, o, hpn, rfl⟩
        · exact ⟨Ext.refl, g2, hD2⟩
        · exact ⟨ext_fresh hpn, g2.fresh hpn, by rw [upd_ne (ne_of_none hD2 hpn)]; exact hD2⟩
      obtain ⟨e3, g3, hD3⟩ := st3
      have ed : xs.drop i = d :: xs.drop (i + 1) := by
        rw [List.drop_eq_getElem_cons hi]
        congr 1
        have := List.getElem?_eq_getElem hi
        rw [hd] at this; exact (Option.some.inj this).symm
      rw [ed] at hp2
      have e13 : Ext ι1 [D] H1 ι2 H3 := e2.trans e3.up fun z q => .inl q
      have sr3 : SR X.K X.mg ι2 (D :: Z) Zf H3 δ σ := sr1.extD g1 hDZ e13
      exact cl_turn (Q := fun _ _ r => postB X.K X.mg T D ι1 Z H1 r Nx) hsl rfl g3 sr3 hDZ hD3 (ra2.ext0 e3) rd hp2 (fun _ _ z => z) fun ι' H' acc' μ' av' e' g' hD' r' q => ⟨ι', μ', acc', av', e13.trans e' fun z q => .inl q, g', hD', r', q⟩
    · rintro H2 ⟨ι2, μ2, acc2, av2, e2, g2, hD2, ra2, hp2⟩
      rw [List.drop_length] at hp2
      exact hp2 ι2 H2 av2 e2 g2 hD2 ra2
theorem to_compN {ct : Tg} {ci : It} {cc ce : E} {cl : Cl} {vs : List Nat} (hsl : ∀ i ∈ ct.slots, i ∈ vs) {σ : L2.St} {H : Hp} {Q : VK} (hh : tE X.K X.mg T W (.compn ce ct ci cc cl vs) σ H Q) :
    tLcN (tI X.K X.mg T W ci) (gT X.K X.mg T ct) (tT X.K X.mg T WF cc) (fun D => tB X.K X.mg T (evc (ev ce) cl) D) vs σ H Q := by
  obtain ⟨ι, Z, Zf, μ, δ, g, sr, hp⟩ := hh
  refine ⟨ι, Z, Zf, μ, δ, g, sr, post.bind hp fun xs μ1 ι1 J H1 e1 g1 wk hp1 => ?_⟩
  intro D hD
  obtain ⟨G, Y, wlk, hG, hY⟩ := wk
  have sr1 := sr.ext g e1
  have hz0 : ∀ z ∈ D :: Z, z ∈ Z ∨ H1 z = none := fun z q => by
    rcases List.mem_cons.mp q with q | q
    · rw [q]; exact .inr hD
    · exact .inl q
  have hDZ : D ∉ Z := (g1.notin hD).2
  have hDf : D ∉ Zf := fun z => hDZ (sr.sub D z)
  refine cl_it wlk (fun i H2 => ∃ ι2 μ2 acc av, Ext ι1 [] H1 ι2 H2 ∧ RG X.K X.mg T ι2 (D :: Z) H2 μ2 ∧ H2 D = some (.lst av) ∧ Rps X.K X.mg ι2 (D :: Z) H2 acc av ∧ post X.K X.mg T (Rp X.K X.mg) ι1 Z H1 (endL (clsL ct (ev cc) (evc (ev ce) cl) (wipeS δ vs) (xs.drop i) acc μ2)) Q (WS W σ))
    ⟨ι1, μ1, [], [], ext_fresh hD, g1.consZ hD, upd_same, rfl, by simpa using hp1⟩ (fun i H2 _ ⟨ι2, μ2, acc, av, e2, _⟩ => hG ι2 [] H2 e2 (by simp)) ?_ ?_
  · rintro i x H2 H3 hi ⟨ι2, μ2, acc, av, e2, g2, hD2, ra, hp2⟩ y
    obtain ⟨d, hd⟩ : ∃ d, xs[i]? = some d := ⟨xs[i], List.getElem?_eq_getElem hi⟩
    obtain ⟨hh, rd⟩ := hY i d ι2 [] (D :: Z) H2 H3 x hd e2 (by simp) hz0 y
    have st3 : Ext ι2 [] H2 ι2 H3 ∧ RG X.K X.mg T ι2 (D :: Z) H3 μ2 ∧ H3 D = some (.lst av) := by
      rcases hh with rfl | ⟨p, o, hpn, rfl⟩
      · exact ⟨Ext.refl, g2, hD2⟩
      · exact ⟨ext_fresh hpn, g2.fresh hpn, by rw [upd_ne (ne_of_none hD2 hpn)]; exact hD2⟩
    obtain ⟨e3, g3, hD3⟩ := st3
    have ed : xs.drop i = d :: xs.drop (i + 1) := by
      rw [List.drop_eq_getElem_cons hi]
      congr 1
      have := List.getElem?_eq_getElem hi
      rw [hd] at this; exact (Option.some.inj this).symm
    rw [ed] at hp2
    have e13 : Ext ι1 [] H1 ι2 H3 := e2.trans0 e3
    have sr3 : SR X.K X.mg ι2 (D :: Z) Zf H3 δ σ := sr1.extZ g1 e13 hz0 (fun z q => List.mem_cons_of_mem _ q)
    refine cl_turn (Q := fun _ _ r => post X.K X.mg T (Rp X.K X.mg) ι1 Z H1 (endL r) Q (WS W σ)) hsl rfl g3 sr3 hDf hD3 (ra.ext0 e3) rd hp2 (fun _ _ z => z) fun ι' H' acc' μ' av' e' g' hD' r' q => ⟨ι', μ', acc', av', ?_, g', hD', r', q⟩
    refine e13.trans e' fun z q => .inr ?_
    rw [List.mem_singleton.mp q]; exact hD
  · rintro H2 ⟨ι2, μ2, acc, av, e2, g2, hD2, ra, hp2⟩
    rw [List.drop_length] at hp2
    have hDι : D ∉ ι2 := (g2.zl D (List.mem_cons_self ..)).2
    exact hp2 ι2 _ H2 e2 (g2.weakZ fun z q => List.mem_cons_of_mem _ q) ⟨D, av, rfl, ⟨hD2, hDι, hDZ⟩, ra.weak fun z q => List.mem_cons_of_mem _ q⟩
theorem BodyOk.imp {Y : Cx} {b : BW} {vs : List Nat} {tb tb' : BT} (h : BodyOk Y b vs tb) (i : ∀ σ H Nx, tb' σ H Nx → tb σ H Nx) : BodyOk Y b vs tb' := fun pins s σ H Nx I q => h pins s σ H Nx I (i σ H Nx q)
theorem m_compn2 {elt t0 i0 t1 i1 : Expr} {ifs0 ifs1 : List Expr} {scope : Scope} {own : List (Str × Nat)} {ct0 ct1 : Tg} {ci0 ci1 : It} {cc0 cc1 ce : E} {vs vs1 : List Nat} (hc : X.calm = true) (hN : X.N.Nodup) (ok : BlkOk X.N X.env.scope scope own) (hvs : vs = own.map (·.2)) (hsl0 : ∀ i ∈ ct0.slots, i ∈ vs)
    (hi0 : PI X t0 i0 (tI X.K X.mg T W ci0)) (hs0 : ∀ x, foldedSetIterable i0 X.env x = pure x)
    (hg0 : ∀ (s : Shared) (H : Hp) (C : Addr) (cl : List (Str × Addr)) (fp : List Addr), PG (X.blk s H scope (compEnvC scope cl C X.env) fp) t0 (gT X.K X.mg T ct0)) (ht0 : ∀ (s : Shared) (H : Hp) (C : Addr) (cl : List (Str × Addr)) (fp : List Addr), PTs (X.blk s H scope (compEnvC scope cl C X.env) fp) ifs0 (tT X.K X.mg T WF cc0))
    (hg1 : ∀ (s : Shared) (H : Hp) (C : Addr) (cl : List (Str × Addr)) (fp : List Addr), PG (X.blk s H scope (compEnvC scope cl C X.env) fp) t1 (gT X.K X.mg T ct1)) (ht1 : ∀ (s : Shared) (H : Hp) (C : Addr) (cl : List (Str × Addr)) (fp : List Addr), PTs (X.blk s H scope (compEnvC scope cl C X.env) fp) ifs1 (tT X.K X.mg T WF cc1))
    (hi1 : ∀ (s : Shared) (H : Hp) (C : Addr) (cl : List (Str × Addr)) (fp : List Addr), PI (X.blk s H scope (compEnvC scope cl C X.env) fp) t1 i1 (tI X.K X.mg T WF ci1)) (hs1 : ∀ env x, foldedSetIterable i1 env x = pure x) (hsl1 : ∀ i ∈ ct1.slots, i ∈ vs1) (hw1 : ∀ i ∈ vs1, i ∈ vs)
    (he : ∀ (s : Shared) (H : Hp) (C : Addr) (cl : List (Str × Addr)) (fp : List Addr), PE (X.blk s H scope (compEnvC scope cl C X.env) fp) elt (tE X.K X.mg T WF ce)) : PE X (.ListComp elt [⟨t0, i0, ifs0, 0⟩, ⟨t1, i1, ifs1, 0⟩] scope pos) (tE X.K X.mg T W (.compn ce ct0 ci0 cc0 (.cons ct1 ci1 cc1 vs1 .nil) vs)) := by
  refine ⟨fun pins s σ H Q I h => ?_⟩
  rw [eval_ListComp]
  subst hvs
  refine lcN_core (cmp := (.ListComp elt [⟨t0, i0, ifs0, 0⟩, ⟨t1, i1, ifs1, 0⟩] scope pos)) (bb := fun env acc => nextW X.prog X.w X.A (.ListComp elt [⟨t0, i0, ifs0, 0⟩, ⟨t1, i1, ifs1, 0⟩] scope pos) 1 i1 acc env) (ws := vs1) rfl hc hN I hi0 ok hw1 hg0 ht0 (fun s H C cl fp D => ?_) hs0 (fun env acc P P' s => next_mono P P' s) (fun env D => turnW2_0 (hs1 env)) (to_compN hsl0 h) fun D C s' m H' I' q hn f => ⟨m, hn, fun h'' sb => ?_⟩
  · exact ((clause_ok (Y := X.blk s H scope (compEnvC scope cl C X.env) fp) (cmp := (.ListComp elt [⟨t0, i0, ifs0, 0⟩, ⟨t1, i1, ifs1, 0⟩] scope pos)) (idx := 1) (t := t1) (i := i1) (ifs := ifs1) (D := D) (vs := vs1) hc rfl rfl (hi1 s H C cl fp) (hg1 s H C cl fp) (ht1 s H C cl fp) (((last_ok (Y := X.blk s H scope (compEnvC scope cl C X.env) fp) (D := D) (he s H C cl fp) rfl rfl)).imp fun σ H Nx h => to_last h) (by simp) (fun P P' s => lastW_mono P P' s) turnW2_1 startW2_1).imp fun σ H Nx h => to_clause hsl1 h)
  · obtain ⟨f0, f1, f2, f3, f4, f5⟩ := f
    exact ⟨.ref D, H', I'.turned (t' := s'.toks) (fun b o hb e => (sb.2 b hb).trans e) f0 f1 f3 f4 f5, rfl, q⟩
theorem m_compn3 {elt t0 i0 t1 i1 t2 i2 : Expr} {ifs0 ifs1 ifs2 : List Expr} {scope : Scope} {own : List (Str × Nat)} {ct0 ct1 ct2 : Tg} {ci0 ci1 ci2 : It} {cc0 cc1 cc2 ce : E} {vs vs1 vs2 : List Nat} (hc : X.calm = true) (hN : X.N.Nodup) (ok : BlkOk X.N X.env.scope scope own) (hvs : vs = own.map (·.2)) (hsl0 : ∀ i ∈ ct0.slots, i ∈ vs)
    (hi0 : PI X t0 i0 (tI X.K X.mg T W ci0)) (hs0 : ∀ x, foldedSetIterable i0 X.env x = pure x)
    (hg0 : ∀ (s : Shared) (H : Hp) (C : Addr) (cl : List (Str × Addr)) (fp : List Addr), PG (X.blk s H scope (compEnvC scope cl C X.env) fp) t0 (gT X.K X.mg T ct0)) (ht0 : ∀ (s : Shared) (H : Hp) (C : Addr) (cl : List (Str × Addr)) (fp : List Addr), PTs (X.blk s H scope (compEnvC scope cl C X.env) fp) ifs0 (tT X.K X.mg T WF cc0))
    (hg1 : ∀ (s : Shared) (H : Hp) (C : Addr) (cl : List (Str × Addr)) (fp : List Addr), PG (X.blk s H scope (compEnvC scope cl C X.env) fp) t1 (gT X.K X.mg T ct1)) (ht1 : ∀ (s : Shared) (H : Hp) (C : Addr) (cl : List (Str × Addr)) (fp : List Addr), PTs (X.blk s H scope (compEnvC scope cl C X.env) fp) ifs1 (tT X.K X.mg T WF cc1))
    (hg2 : ∀ (s : Shared) (H : Hp) (C : Addr) (cl : List (Str × Addr)) (fp : List Addr), PG (X.blk s H scope (compEnvC scope cl C X.env) fp) t2 (gT X.K X.mg T ct2)) (ht2 : ∀ (s : Shared) (H : Hp) (C : Addr) (cl : List (Str × Addr)) (fp : List Addr), PTs (X.blk s H scope (compEnvC scope cl C X.env) fp) ifs2 (tT X.K X.mg T WF cc2))
    (hi1 : ∀ (s : Shared) (H : Hp) (C : Addr) (cl : List (Str × Addr)) (fp : List Addr), PI (X.blk s H scope (compEnvC scope cl C X.env) fp) t1 i1 (tI X.K X.mg T WF ci1)) (hs1 : ∀ env x, foldedSetIterable i1 env x = pure x) (hsl1 : ∀ i ∈ ct1.slots, i ∈ vs1) (hw1 : ∀ i ∈ vs1, i ∈ vs)
    (hi2 : ∀ (s : Shared) (H : Hp) (C : Addr) (cl : List (Str × Addr)) (fp : List Addr), PI (X.blk s H scope (compEnvC scope cl C X.env) fp) t2 i2 (tI X.K X.mg T WF ci2)) (hs2 : ∀ env x, foldedSetIterable i2 env x = pure x) (hsl2 : ∀ i ∈ ct2.slots, i ∈ vs2) (hw2 : ∀ i ∈ vs2, i ∈ vs1)
    (he : ∀ (s : Shared) (H : Hp) (C : Addr) (cl : List (Str × Addr)) (fp : List Addr), PE (X.blk s H scope (compEnvC scope cl C X.env) fp) elt (tE X.K X.mg T WF ce)) : PE X (.ListComp elt [⟨t0, i0, ifs0, 0⟩, ⟨t1, i1, ifs1, 0⟩, ⟨t2, i2, ifs2, 0⟩] scope pos) (tE X.K X.mg T W (.compn ce ct0 ci0 cc0 (.cons ct1 ci1 cc1 vs1 (.cons ct2 ci2 cc2 vs2 .nil)) vs)) := by
  refine ⟨fun pins s σ H Q I h => ?_⟩
  rw [eval_ListComp]
  subst hvs
  refine lcN_core (cmp := (.ListComp elt [⟨t0, i0, ifs0, 0⟩, ⟨t1, i1, ifs1, 0⟩, ⟨t2, i2, ifs2, 0⟩] scope pos)) (bb := fun env acc => nextW X.prog X.w X.A (.ListComp elt [⟨t0, i0, ifs0, 0⟩, ⟨t1, i1, ifs1, 0⟩, ⟨t2, i2, ifs2, 0⟩] scope pos) 1 i1 acc env) (ws := vs1) rfl hc hN I hi0 ok hw1 hg0 ht0 (fun s H C cl fp D => ?_) hs0 (fun env acc P P' s => next_mono P P' s) (fun env D => turnW3_0 (hs1 env)) (to_compN hsl0 h) fun D C s' m H' I' q hn f => ⟨m, hn, fun h'' sb => ?_⟩
  · exact ((clause_ok (Y := X.blk s H scope (compEnvC scope cl C X.env) fp) (cmp := (.ListComp elt [⟨t0, i0, ifs0, 0⟩, ⟨t1, i1, ifs1, 0⟩, ⟨t2, i2, ifs2, 0⟩] scope pos)) (idx := 1) (t := t1) (i := i1) (ifs := ifs1) (D := D) (vs := vs1) hc rfl rfl (hi1 s H C cl fp) (hg1 s H C cl fp) (ht1 s H C cl fp) ((clause_ok (Y := X.blk s H scope (compEnvC scope cl C X.env) fp) (cmp := (.ListComp elt [⟨t0, i0, ifs0, 0⟩, ⟨t1, i1, ifs1, 0⟩, ⟨t2, i2, ifs2, 0⟩] scope pos)) (idx := 2) (t := t2) (i := i2) (ifs := ifs2) (D := D) (vs := vs2) hc rfl rfl (hi2 s H C cl fp) (hg2 s H C cl fp) (ht2 s H C cl fp) (((last_ok (Y := X.blk s H scope (compEnvC scope cl C X.env) fp) (D := D) (he s H C cl fp) rfl rfl)).imp fun σ H Nx h => to_last h) (by simp) (fun P P' s => lastW_mono P P' s) turnW3_2 startW3_2).imp fun σ H Nx h => to_clause hsl2 h) hw2 (fun P P' s => next_mono P P' s) (turnW3_1 (hs2 _)) startW3_1).imp fun σ H Nx h => to_clause hsl1 h)
  · obtain ⟨f0, f1, f2, f3, f4, f5⟩ := f
    exact ⟨.ref D, H', I'.turned (t' := s'.toks) (fun b o hb e => (sb.2 b hb).trans e) f0 f1 f3 f4 f5, rfl, q⟩
end
end Mi
set_option Elab.async false
set_option linter.all false
set_option maxRecDepth 100000
set_option maxHeartbeats 4000000
/-! Mp: new dicts, what they hold, copies. -/
namespace Mi
open PySem PySem.Spec PyProof.Rows L2 RZ
theorem ext_sub {ι : List Addr} {H H' : Hp} {p : Addr} (h : ∀ b o, H b = some o → H' b = some o) (hp : H p = none) : Ext ι [] H (ι ++ [p]) H' :=
  ⟨⟨[p], rfl, fun q hq => by rw [List.mem_singleton.mp hq]; exact hp⟩, fun a o q _ _ _ => h a o q, fun a o q => ⟨o, h a o q⟩, fun a xs q => h a _ q⟩
theorem RG.sub {K : PySem.W.Frag} {mg : Str → Option Value} {T : TW} {ι Z : List Addr} {H H' : Hp} {μ : List Mo} (g : RG K mg T ι Z H μ) {p : Addr} {m : Mo} (h : ∀ b o, H b = some o → H' b = some o) (hp : H p = none) (hm : RpM T.w K mg (ι ++ [p]) Z H' p m) : RG K mg T (ι ++ [p]) Z H' (μ ++ [m]) := by
  have np := g.notin hp
  have e := ext_sub (ι := ι) h hp
  refine ⟨?_, by simp [g.len], fun n m' hn => ?_, fun z hz => ⟨?_, fun q => ?_⟩, fun t ht => ?_⟩
  · rw [List.nodup_append]
    refine ⟨g.nd, by simp, fun a ha b hb => ?_⟩
    rw [List.mem_singleton.mp hb]
    exact fun q => np.1 (q ▸ ha)
  · by_cases hl : n < μ.length
    · rw [List.getElem?_append_left hl] at hn
      obtain ⟨a, h1, h2⟩ := g.mem n m' hn
      obtain ⟨u, q, _⟩ := h2.at
      exact ⟨a, by rw [List.getElem?_append_left (by rw [g.len]; exact hl)]; exact h1, h2.ext (Zf := []) e (by simp) (fun _ z => .inl z) ((h a u q).trans q.symm)⟩
    · have hn2 : n = μ.length := by
        have := (List.getElem?_eq_some_iff.mp hn).1
        simp at this; omega
      subst hn2
      rw [List.getElem?_append_right (Nat.le_refl _)] at hn
      simp at hn
      subst hn
      exact ⟨p, by rw [← g.len]; simp, hm⟩
  · obtain ⟨us, hu⟩ := (g.zl z hz).1
    exact ⟨us, h z _ hu⟩
  · rcases List.mem_append.mp q with q | q
    · exact (g.zl z hz).2 q
    · rw [List.mem_singleton.mp q] at hz
      exact np.2 hz
  · obtain ⟨ps, h1, h2, h3⟩ := g.tabs t ht
    refine ⟨ps, h _ _ h1, h2, fun pos cv hc => ?_⟩
    obtain ⟨c, e1, e2⟩ := h3 pos cv hc
    exact ⟨c, e1, h _ _ e2⟩
section
variable {X : Cx} {T : TW} {W : WX} {pos : Pos}
/-- {} -/
theorem m_dnew (hw : T.w = X.w) : PE X (.Dict [] [] pos) (tE X.K X.mg T W .dnew) := by
  refine ⟨fun pins s σ H Q I h => ?_⟩
  obtain ⟨ι, Z, Zf, μ, δ, g, sr, hp⟩ := h
  have hn := I.hok.fresh (Nat.le_refl s.heap.objs.size)
  refine wpAny_Dict_empty ⟨.ref s.heap.objs.size, _, I.laid (a := s.heap.objs.size) (o := NDo X.w s.heap.objs.size []) (t' := s.toks) (fun _ _ q => Heap.get?_push_of_some _ q) (Nat.le_refl _) (nd_new I), rfl, ?_⟩
  refine hp _ _ _ (ext_more hn) (g.more hn ⟨[], ?_, ?_, by simp, .nil, rfl⟩) ⟨s.heap.objs.size, rfl, by rw [← g.len]; simp⟩
  · rw [hw]; exact upd_same
  · exact beq_eq_false_iff_ne.mpr (Ne.symm (Nat.ne_of_lt I.big))
/-- d.get(k, x) -/
theorem m_dget {o k x : Expr} {co ck cx : E} {apos cpos : Pos} (hw : T.w = X.w) (hu : X.A.units + 9 < cLine) (ho : PE X o (tE X.K X.mg T W co)) (hk : PE X k (tE X.K X.mg T W ck)) (hx : PE X x (tE X.K X.mg T W cx)) (m : L2.M2 X o "get" apos k x cpos) : PE X (.Call (.Attribute o "get" apos) [k, x] [] cpos) (tE X.K X.mg T W (.dget co ck cx)) := by
  refine ⟨fun pins s σ H Q I h => ?_⟩
  obtain ⟨ι, Z, Zf, μ, δ, g, sr, hp⟩ := h
  have h1 : tE X.K X.mg T W co σ H (fun v H1 => ∃ n a ι1 μ1 kvs, v = .ref a ∧ μ1[n]? = some (.dcn kvs) ∧ ι1[n]? = some a ∧ RG X.K X.mg T ι1 Z H1 μ1 ∧ SR X.K X.mg ι1 Z Zf H1 δ σ ∧ post X.K X.mg T (Rp X.K X.mg) ι1 Z H1 (bindR (ev ck δ μ1) fun b μ => bindR (ev cx δ μ) fun c μ => optR (getN μ (.obj n) b c) μ) Q (WS W σ)) := by
    simp only [ev] at hp
    refine ⟨ι, Z, Zf, μ, δ, g, sr, post.bind hp fun d μ1 ι1 v H1 e1 g1 r1 hp1 => ?_⟩
    split at hp1
    · rename_i hd
      unfold isDcn at hd
      split at hd
      · rename_i n
        split at hd
        · rename_i kvs hm
          obtain ⟨a, rfl, ha⟩ := r1
          exact ⟨n, a, ι1, μ1, kvs, rfl, hm, ha, g1, sr.ext g e1, hp1⟩
        · cases hd
      · cases hd
    · exact hp1.elim
  refine wpAny_Call_method m.base m.few m.line PySem.F.plainAttrs_dict PySem.F.slot_dict_get PySem.F.type_dict_get (thn (ho.run pins s σ H _ I h1) fun u s1 ⟨v, H1, I1, rv, n, a, ι1, μ1, kvs, ev1, hm, ha, g1, sr1, hp1⟩ => ?_)
  subst ev1
  obtain rfl : u = Value.ref a := rv
  obtain ⟨xs, q1, q2, q3, q4, q5⟩ := nd_mem hw g1 hm ha
  obtain ⟨ys, r1, dd⟩ := nd_dict I1 q1 q3 q4
  refine ⟨dd.typeIs, fun b q => ?_, ?_⟩
  · cases q
    obtain ⟨ob, _, _, h1, h2, _⟩ := dd
    exact ⟨ob, h1, h2.2.1⟩
  rw [m.trees]
  have h2 : tE X.K X.mg T W ck σ H1 (fun b H2 => tE X.K X.mg T W cx σ H2 (fun c H3 => ∃ ι3 μ3 kvs kd k' xd, RG X.K X.mg T ι3 Z H3 μ3 ∧ μ3[n]? = some (.dcn kvs) ∧ ι3[n]? = some a ∧ nkT kd = some k' ∧ Rp X.K X.mg ι3 Z H3 kd b ∧ Rp X.K X.mg ι3 Z H3 xd c ∧ ∀ y, Rp X.K X.mg ι3 Z H3 ((lookN kvs k').getD xd) y → Q y H3)) := by
    refine ⟨ι1, Z, Zf, μ1, δ, g1, sr1, post.bind hp1 fun kd μ2 ι2 b H2 e2 g2 rb hp2 => ?_⟩
    refine ⟨ι2, Z, Zf, μ2, δ, g2, sr1.ext g1 e2, post.bind hp2 fun xd μ3 ι3 c H3 e3 g3 rc hp3 => ?_⟩
    have ha3 : ι3[n]? = some a := by
      obtain ⟨l2, rfl, _⟩ := e2.ids
      obtain ⟨l3, rfl, _⟩ := e3.ids
      rw [List.append_assoc, List.getElem?_append_left (List.getElem?_eq_some_iff.mp ha).1]
      exact ha
    unfold optR getN at hp3
    simp only at hp3
    split at hp3
    · rename_i kvs3 hm3
      cases hk3 : nkT kd with
      | none => rw [hk3] at hp3; exact hp3.elim
      | some k' =>
        rw [hk3] at hp3
        exact ⟨ι3, μ3, kvs3, kd, k', xd, g3, hm3, ha3, hk3, rb.ext0 e3, rc, fun y ry => hp3 ι3 y H3 Ext.refl g3 ry⟩
    · exact hp3.elim
  refine Calls.callWith_builtin rfl (Calls.evalArgs_plain (Calls.spliced_cons (thn (hk.run pins s1 σ H1 _ I1 h2) fun iv s2 ⟨b, H2, I2, rb, h3⟩ =>
    Calls.spliced_cons (thn (hx.run pins s2 σ H2 _ I2 h3) fun fv s3 ⟨c, H3, I3, rc, ι3, μ3, kvs, kd, k', xd, g3, hm3, ha3, hk3, rk, rx, q⟩ => Calls.spliced_nil ?_))))
  exact nd_get hw hu I3 g3 hm3 ha3 hk3 rk rb rx rc fun y u' s' I' rv' rp => ⟨y, H3, I', rv', q y rp⟩
/-- list(e) as a changeable list -/
theorem m_mcp {e : Expr} {ce : E} {p : Pos} (hg : Gl X "list") (hm : X.mg "list" = none) (he : PE X e (tE X.K X.mg T W ce)) (hs : starEach [e] X.env = (false, eval e X.env) :: starEach [] X.env) : PE X (.Call (.Name "list" p) [e] [] pos) (tE X.K X.mg T W (.mcp ce)) :=
  PE.imp (pe_callTy call_list_of hg hm (by decide +kernel) (pa_cons he pa_nil hs) (by decide) (by decide) hs rfl) fun σ H Q h => by
    obtain ⟨ι, Z, Zf, μ, δ, g, sr, hp⟩ := h
    simp only [ev] at hp
    refine ⟨ι, Z, Zf, μ, δ, g, sr, post.bind hp fun d μ1 ι1 v H1 e1 g1 r1 hp1 => ?_⟩
    cases hi : itemsD μ1 d with
    | none => rw [hi] at hp1; exact hp1.elim
    | some xs =>
      rw [hi] at hp1
      unfold itemsD at hi
      have fin : ∀ (a : Addr) (vs : List V), Rps X.K X.mg ι1 Z H1 xs vs → ∀ l, H1 l = none → Q (.ref l) (upd H1 l (.lst vs)) := fun a vs r l hl =>
        hp1 _ _ _ (ext_more hl) (g1.more hl ⟨vs, upd_same, r.ext0 (ext_more hl)⟩) ⟨l, rfl, by rw [← g1.len]; simp⟩
      split at hi
      · rename_i ys e2
        cases hi
        obtain ⟨a, vs, rfl, h1, h2⟩ := see_lst g1 e2 r1
        exact ⟨a, vs, rfl, .inl (SqL.of h1), fin a vs h2⟩
      · rename_i ys e2
        cases hi
        obtain ⟨a, vs, rfl, h1, h2⟩ := see_seq g1 e2 r1
        exact ⟨a, vs, rfl, .inr h1.sq, fin a vs h2⟩
      · cases hi
end
theorem valV_nd {kvs : List (Key × V)} : ∀ {i : Nat} {k : Key} {v : V}, (kvs.map (·.1)).Nodup → kvs[i]? = some (k, v) → valV kvs k = some v := by
  induction kvs with
  | nil => intro i k v _ h; simp at h
  | cons p kvs ih =>
    intro i k v hn h
    rw [List.map_cons, List.nodup_cons] at hn
    cases i with
    | zero => simp at h; rw [h]; exact valV_pos (p := (k, v)) rfl
    | succ i =>
      have h : kvs[i]? = some (k, v) := by simpa using h
      rw [valV_neg fun e => hn.1 ?_]
      · exact ih hn.2 h
      · rw [e]; exact List.mem_map.mpr ⟨(k, v), List.mem_of_getElem? h, rfl⟩
section
variable {X : Cx} {T : TW} {W : WX} {pos : Pos}
/-- dict([(x, o[x]) for x in o]), o a name -/
theorem pe_dcp {i io : Nat} {x o : Str} {p px1 po1 px2 ps1 pt1 px3 po2 pl : Pos} {kt : Nat} {scope : Scope} {own : List (Str × Nat)} (hc : X.calm = true) (hu : X.A.units + 1 < cLine) (hg : Gl X "dict") (hm : X.mg "dict" = none) (hN : X.N.Nodup) (ok : BlkOk X.N X.env.scope scope own) (hio : io ∉ own.map (·.2)) (hi : i ∈ own.map (·.2))
    (hxN : X.N[i]? = some x) (hoN : X.N[io]? = some o) (hov : Vis X.env.scope o) (hod : (o == ("__debug__" : Str)) = false) (hocd : (o == ("__classdict__" : Str)) = false) (hxd : (x == ("__debug__" : Str)) = false) (hxcd : (x == ("__classdict__" : Str)) = false)
    (hxb : ∀ (s : Shared) (H : Hp) (C : Addr) (cl : List (Str × Addr)) (fp : List Addr), Vis (X.blk s H scope (compEnvC scope cl C X.env) fp).env.scope x ∧ Loc (X.blk s H scope (compEnvC scope cl C X.env) fp).env.scope x ∧ ((X.blk s H scope (compEnvC scope cl C X.env) fp).fn x = true ∨ (X.blk s H scope (compEnvC scope cl C X.env) fp).env.scope.names.lookup x = some .local))
    (hob : ∀ (s : Shared) (H : Hp) (C : Addr) (cl : List (Str × Addr)) (fp : List Addr), Vis (X.blk s H scope (compEnvC scope cl C X.env) fp).env.scope o) :
    PE X (.Call (.Name "dict" p) [.ListComp (.Tuple [.Name x px1, .Subscript (.Name o po1) (.Name x px2) ps1] kt pt1) [⟨.Name x px3, .Name o po2, [], 0⟩] scope pl] [] pos) (fun σ H Q => i < σ.length ∧ ∃ a kvs, σ[io]? = some (some (.ref a)) ∧ H a = some (.dK kvs) ∧ (kvs.map (·.1)).Nodup ∧ kvs.length < sizeLine ∧
      ∀ q H', (∀ b u, H b = some u → H' b = some u) → H q = none → H' q = some (.dK kvs) → Q (.ref q) H') := by
  refine PE.imp (pe_lock (pe_callTy (call_dictP hc) hg hm (by decide +kernel) (pa_cons (pe_lc hc hN (pi_keys (pe_var hoN hov hod hocd)) ok
    (fun s H C cl fp => pg_name (X := X.blk s H scope (compEnvC scope cl C X.env) fp) hN hxN (hxb s H C cl fp).2.1 (hxb s H C cl fp).2.2) (fun s H C cl fp => pts_nil)
    (fun s H C cl fp => pe_tup (pa_cons (pe_var (X := X.blk s H scope (compEnvC scope cl C X.env) fp) hxN (hxb s H C cl fp).1 hxd hxcd) (pa_cons (pe_dget (X := X.blk s H scope (compEnvC scope cl C X.env) fp) hu (pe_var hoN (hob s H C cl fp) hod hocd) (pe_var hxN (hxb s H C cl fp).1 hxd hxcd) (fun _ _ => rfl)) pa_nil rfl) rfl)) (fun _ => rfl)) pa_nil rfl) (by decide) (by decide) rfl rfl)) fun σ H Q h => ?_
  obtain ⟨hlen, a, kvs, hσ, ha, hn, hz, hQ⟩ := h
  refine ⟨a, .dK kvs, ha, trivial, fun od => ?_⟩
  have hH0 : upd H a (.frz od (.dK kvs)) a = some (.frz od (.dK kvs)) := upd_same
  refine ⟨.ref a, hσ, a, od, rfl, .inl ⟨kvs, hH0, ?_⟩⟩
  intro D hD
  have hDH : H D = none := by
    by_cases e : D = a
    · rw [e, hH0] at hD; cases hD
    · rw [upd_ne e] at hD; exact hD
  refine lc_it walk_keys (fun j H2 => (∀ b u, upd H a (.frz od (.dK kvs)) b = some u → H2 b = some u) ∧ ∃ qs : List Addr, H2 D = some (.lst (qs.map V.ref)) ∧ Paired (fun q kv => H2 q = some (.tup [kV kv.1, kv.2])) qs (kvs.take j))
    ⟨fun b u q => by rw [upd_ne (ne_of_none q hD)]; exact q, [], upd_same, .nil⟩ (fun j H2 _ q => q.1 a _ hH0) ?_ ?_
  · rintro j y H2 H3 hj ⟨q1, qs, q2, q3⟩ ⟨rfl, k, v, e1, rfl⟩
    have hwx : (wipe σ (own.map (·.2))).length = σ.length := wipe_length _ _
    refine ⟨?_, ?_⟩
    · rw [wipe_set hi]; exact wipe_wipe σ _
    · simp only [tYes, if_true]
      have hil : i < (wipe σ (own.map (·.2))).length := by rw [hwx]; exact hlen
      refine ⟨kV k, by rw [List.getElem?_set_self hil], ?_⟩
      have ho2 : ((wipe σ (own.map (·.2))).set i (some (kV k)))[io]? = some (some (.ref a)) := by
        have hne : i ≠ io := fun e => hio (by rw [← e]; exact hi)
        rw [List.getElem?_set_ne hne, wipe_out hio]; exact hσ
      refine ⟨.ref a, ho2, kV k, by rw [List.getElem?_set_self hil], a, v, rfl, .inl ⟨kvs, k, .inr ⟨od, q1 a _ hH0⟩, rfl, (valV_nd hn e1).symm⟩, by show 2 ≤ sizeLine; decide, fun q hq => ?_⟩
      have hDq : D ≠ q := ne_of_none q2 hq
      have hl : qs.length = j := by
        have := Paired.length q3
        rw [List.length_take] at this; omega
      refine ⟨qs.map V.ref, by rw [upd_ne hDq]; exact q2, by rw [List.length_map, hl]; omega, ?_⟩
      refine ⟨fun b u e => ?_, qs ++ [q], by rw [upd_same]; simp, ?_⟩
      · have hb := q1 b u e
        have hbD : b ≠ D := ne_of_none e hD
        rw [upd_ne hbD, upd_ne (ne_of_none hb hq)]
        exact hb
      · have et : kvs.take (j + 1) = kvs.take j ++ [(k, v)] := by
          rw [List.take_succ, e1]; rfl
        rw [et]
        have hqD : q ≠ D := fun e => hDq e.symm
        refine Paired.snoc (Paired.mapP q3 fun b kv z => ?_) (by rw [upd_ne hqD]; exact upd_same)
        have hbq : b ≠ q := ne_of_none z hq
        have hbD : b ≠ D := fun e => by rw [e, q2] at z; cases z
        rw [upd_ne hbD, upd_ne hbq]
        exact z
  · rintro H2 ⟨q1, qs, q2, q3⟩
    rw [List.take_length] at q3
    refine ⟨D, qs, kvs, rfl, SqL.of q2, Paired.mapP q3 fun q kv z => .inl (.inl z), fun p hp => ?_⟩
    have hap : a ≠ p := ne_of_none (q1 a _ hH0) hp
    refine ⟨by rw [upd_ne hap]; exact q1 a _ hH0, ?_⟩
    have em : mergeK [] kvs = kvs := by
      have := merge_id kvs [] (by simpa using hn)
      simpa using this
    refine hQ p _ (fun b u e => ?_) ?_ ?_
    · by_cases z : b = a
      · rw [z, upd_same]; rw [z, ha] at e; exact e
      · have hb := q1 b u (by rw [upd_ne z]; exact e)
        rw [upd_ne z, upd_ne (ne_of_none hb hp)]
        exact hb
    · cases q : H p with
      | none => rfl
      | some u =>
        have := q1 p u (by rw [upd_ne (Ne.symm hap)]; exact q)
        rw [hp] at this; cases this
    · rw [upd_ne (Ne.symm hap), upd_same, em]
theorem m_dcp {i io : Nat} {x o : Str} {p px1 po1 px2 ps1 pt1 px3 po2 pl : Pos} {kt : Nat} {scope : Scope} {own : List (Str × Nat)} (hc : X.calm = true) (hu : X.A.units + 1 < cLine) (hg : Gl X "dict") (hm : X.mg "dict" = none) (hN : X.N.Nodup) (ok : BlkOk X.N X.env.scope scope own) (hio : io ∉ own.map (·.2)) (hi : i ∈ own.map (·.2))
    (hxN : X.N[i]? = some x) (hoN : X.N[io]? = some o) (hov : Vis X.env.scope o) (hod : (o == ("__debug__" : Str)) = false) (hocd : (o == ("__classdict__" : Str)) = false) (hxd : (x == ("__debug__" : Str)) = false) (hxcd : (x == ("__classdict__" : Str)) = false)
    (hxb : ∀ (s : Shared) (H : Hp) (C : Addr) (cl : List (Str × Addr)) (fp : List Addr), Vis (X.blk s H scope (compEnvC scope cl C X.env) fp).env.scope x ∧ Loc (X.blk s H scope (compEnvC scope cl C X.env) fp).env.scope x ∧ ((X.blk s H scope (compEnvC scope cl C X.env) fp).fn x = true ∨ (X.blk s H scope (compEnvC scope cl C X.env) fp).env.scope.names.lookup x = some .local))
    (hob : ∀ (s : Shared) (H : Hp) (C : Addr) (cl : List (Str × Addr)) (fp : List Addr), Vis (X.blk s H scope (compEnvC scope cl C X.env) fp).env.scope o) :
    PE X (.Call (.Name "dict" p) [.ListComp (.Tuple [.Name x px1, .Subscript (.Name o po1) (.Name x px2) ps1] kt pt1) [⟨.Name x px3, .Name o po2, [], 0⟩] scope pl] [] pos) (tE X.K X.mg T W (.dcp i (.var io))) :=
  PE.imp (pe_dcp hc hu hg hm hN ok hio hi hxN hoN hov hod hocd hxd hxcd hxb hob) fun σ H Q h => by
    obtain ⟨ι, Z, Zf, μ, δ, g, sr, hp⟩ := h
    simp only [ev] at hp
    cases hq : δ[io]? with
    | none => rw [hq] at hp; exact hp.elim
    | some sl =>
      rw [hq] at hp
      cases sl with
      | d y =>
        simp only [retR, bindR] at hp
        cases hd : dctOf μ y with
        | none => rw [hd] at hp; exact hp.elim
        | some kvs =>
          rw [hd] at hp
          simp only at hp
          split at hp
          · rename_i hl
            obtain ⟨v, hv, rv⟩ := sr.get hq
            unfold dctOf at hd
            split at hd
            · rename_i n
              split at hd
              · rename_i ks hmm
                split at hd <;> cases hd
                rename_i hc2
                simp only [Bool.and_eq_true, decide_eq_true_eq] at hc2
                obtain ⟨a, rfl, ha⟩ := rv
                obtain ⟨b, hb, vs, h1, h2⟩ := g.mem n _ hmm
                rw [ha] at hb; cases hb
                have hln : kvs.length = vs.length := by have := h2.length; simpa using this
                have hkeys : (((kvs.map fun p => (Sum.inr p.1 : Key)).zip vs).map (·.1)) = kvs.map fun p => (Sum.inr p.1 : Key) := by
                  rw [List.map_fst_zip]; simp [hln]
                refine ⟨by rw [← sr.len]; exact hl, a, _, hv, h1, ?_, ?_, fun q H' hs hq2 hq3 => ?_⟩
                · rw [hkeys]
                  have : (kvs.map fun p => (Sum.inr p.1 : Key)) = (kvs.map (·.1)).map Sum.inr := by rw [List.map_map]; rfl
                  rw [this]
                  refine List.Pairwise.map _ (fun a b h e => h ?_) hc2.2
                  cases e; rfl
                · rw [List.length_zip, List.length_map, ← hln, Nat.min_self, sizeLine_eq]; omega
                · exact hp _ _ _ (ext_sub hs hq2) (g.sub hs hq2 ⟨vs, hq3, h2.ext0 (ext_sub hs hq2)⟩) ⟨q, rfl, by rw [← g.len]; simp⟩
              · cases hd
            · cases hd
          · exact hp.elim
      | _ => exact hp.elim
/-- any store -/
theorem put_any {ι Z : List Addr} {H : Hp} {μ μ' : List Mo} {x k v : Mi.D} {x' k' v' : V} {Q : Hp → Prop} (g : RG X.K X.mg T ι Z H μ) (ho : putD μ x k v = some μ') (rx : Rp X.K X.mg ι Z H x x') (rk : Rp X.K X.mg ι Z H k k') (rv : Rp X.K X.mg ι Z H v v') (q : ∀ H', Ext ι [] H ι H' → RG X.K X.mg T ι Z H' μ' → Q H') :
    (rSetL x' k' v' H Q ∨ rSetD x' k' v' H Q) ∨ rSetN X T x' k' v' H Q := by
  unfold putD at ho
  split at ho
  · rename_i n
    split at ho
    · rename_i xs k hm
      cases hx : L2.ixN xs.length k with
      | none => rw [hx] at ho; cases ho
      | some j =>
        rw [hx] at ho
        cases ho
        obtain ⟨a, rfl, ha⟩ := rx
        obtain ⟨b, hb, vs, hv, rvs⟩ := g.mem n _ hm
        rw [ha] at hb; cases hb
        obtain ⟨g4, e4⟩ := g.setL (ys := xs.set j v) (ws := vs.set j v') hm ha hv (rvs.set j rv)
        exact .inl <| .inl ⟨a, vs, k, j, rfl, rk, hv, by rw [← rvs.length]; exact hx, q _ e4 g4⟩
    · rename_i kvs z hm
      split at ho
      · rename_i hc
        cases ho
        simp only [Bool.and_eq_true, decide_eq_true_eq] at hc
        obtain ⟨a, rfl, ha⟩ := rx
        obtain ⟨b, hb, vs, hv, rvs⟩ := g.mem n _ hm
        rw [ha] at hb; cases hb
        obtain ⟨ws, w1, w2⟩ := put_rel (z := z) rv rvs
        obtain ⟨g4, e4⟩ := g.setD (m := putS kvs z v) (ws := ws) hm ha hv w2
        have hk' : k' = V.str z := rk
        subst hk'
        refine .inl <| .inr ⟨a, upd H a (.dK (((putS kvs z v).map kS).zip ws)), rfl, ?_, q _ e4 g4⟩
        have hl : kvs.length = vs.length := by have := rvs.length; simpa using this
        have hput : L2.putK ((kvs.map kS).zip vs) (Sum.inr z : Key) v' = ((putS kvs z v).map kS).zip ws := by
          unfold L2.putK
          rw [any_key hl hc.2, if_pos rfl]
          exact w1
        have := L2.DPut.k (k := (Sum.inr z : Key)) (v := v') hv (by rw [List.length_zip, List.length_map, ← hl, Nat.min_self, sizeLine_eq]; omega)
        rw [hput] at this
        exact this
      · cases ho
    · rename_i kvs ds hm
      cases hk : nkT (.tup ds) with
      | none => rw [hk] at ho; cases ho
      | some k =>
        rw [hk] at ho
        simp only [Option.bind_some] at ho
        split at ho
        · rename_i hz
          cases ho
          obtain ⟨a, rfl, ha⟩ := rx
          exact .inr ⟨ι, Z, μ, n, kvs, a, .tup ds, v, k, g, rfl, hm, ha, hk, rk, rv, by rw [sizeLine_eq]; omega, fun H' e4 g4 => q H' e4 g4⟩
        · cases ho
    · cases ho
  · cases ho
/-- o[i], o2[i2] = e, e2 -/
theorem s_put2 {o i o2 i2 e e2 : Expr} {co ci co2 ci2 ce ce2 : E} {p p2 pt pv : Pos} {kt kv : Nat} (hc : X.calm = true) (he : PE X e (tE X.K X.mg T W ce)) (he2 : PE X e2 (tE X.K X.mg T W ce2)) (ho : PE X o (tE X.K X.mg T W co)) (hi : PE X i (tE X.K X.mg T W ci)) (ho2 : PE X o2 (tE X.K X.mg T W co2)) (hi2 : PE X i2 (tE X.K X.mg T W ci2))
    (hst : starEach [e, e2] X.env = (false, eval e X.env) :: starEach [e2] X.env) (hst2 : starEach [e2] X.env = (false, eval e2 X.env) :: starEach [] X.env)
    (hs : swapsWithSole [.Tuple [.Subscript o i p, .Subscript o2 i2 p2] kt pt] (.Tuple [e, e2] kv pv) pos.line X.env = pure false) (hw : swappedStores [.Tuple [.Subscript o i p, .Subscript o2 i2 p2] kt pt] (.Tuple [e, e2] kv pv) X.env = pure none)
    (h1 : (assignEach [.Tuple [.Subscript o i p, .Subscript o2 i2 p2] kt pt] X.env).map (·.2) = [assign (.Tuple [.Subscript o i p, .Subscript o2 i2 p2] kt pt) X.env])
    (ha : ∀ v, assign (.Subscript o i p) X.env v = (do
      let ov ← holding [v] (eval o X.env)
      let iv ← holding [v, ov] (eval i X.env)
      standAt p
      holding [v, ov, iv] (setItem ov iv v)
      release [v, ov, iv] []))
    (ha2 : ∀ v, assign (.Subscript o2 i2 p2) X.env v = (do
      let ov ← holding [v] (eval o2 X.env)
      let iv ← holding [v, ov] (eval i2 X.env)
      standAt p2
      holding [v, ov, iv] (setItem ov iv v)
      release [v, ov, iv] []))
    (hn : (assignEach [.Subscript o i p, .Subscript o2 i2 p2] X.env).length = 2) (hst3 : (assignEach [.Subscript o i p, .Subscript o2 i2 p2] X.env).findIdx? (·.1) = none)
    (g1 : (assignEach [.Subscript o i p, .Subscript o2 i2 p2] X.env).map (·.2) = assign (.Subscript o i p) X.env :: (assignEach [.Subscript o2 i2 p2] X.env).map (·.2)) (g2 : (assignEach [.Subscript o2 i2 p2] X.env).map (·.2) = assign (.Subscript o2 i2 p2) X.env :: (assignEach [] X.env).map (·.2))
    (hTw : T.w = X.w) (hu : X.A.units + 9 < cLine) : PS X (.Assign [.Tuple [.Subscript o i p, .Subscript o2 i2 p2] kt pt] (.Tuple [e, e2] kv pv) pos) (tS X.K X.mg T W (.put2 co ci co2 ci2 ce ce2)) := by
  have st : PSet X _ := PSet.or (PSet.or set_list (set_dict (X := X) (by omega))) (set_nd (T := T) hTw hu)
  refine PS.imp (ps_asg (pe_tup (pa_cons he (pa_cons he2 pa_nil hst2) hst)) (pg_tup hc (pgs_cons (pg_sub ho hi st ha) (pgs_cons (pg_sub ho2 hi2 st ha2) pgs_nil g2) g1) hn hst3) hs hw h1) fun D σ H h => ?_
  obtain ⟨ι, Zo, Zf, μ, δ, s, hp⟩ := h
  simp only [ex] at hp
  refine ⟨ι, Zo ++ Zf, Zf, μ, δ, s.g, s.s, hp.thenE s fun v μ1 ι1 v' H1 e1 r1 s1 h1 => ?_⟩
  refine ⟨ι1, Zo ++ Zf, Zf, μ1, δ, s1.g, s1.s, h1.thenE s1 fun v2 μ2 ι2 v2' H2 e2 r2 s2 h2 => ?_⟩
  refine ⟨by show 2 ≤ sizeLine; decide, fun q hq => ?_⟩
  have e3 : Ext ι2 [] H2 ι2 (upd H2 q (.tup [v', v2'])) := ext_fresh hq
  have s3 := s2.fresh (o := .tup [v', v2']) hq
  have h3 := h2.mono (ι1 := ι2) (Zf1 := Zf) (e3.mono (by simp)) fun _ z => .inl z
  refine ⟨q, [v', v2'], rfl, .inl (.inl upd_same), rfl, v', [v2'], rfl, ?_⟩
  refine ⟨ι2, Zo ++ Zf, Zf, μ2, δ, s3.g, s3.s, h3.thenE s3 fun x μ4 ι4 x' H4 e4 r4 s4 h4 => ?_⟩
  refine ⟨ι4, Zo ++ Zf, Zf, μ4, δ, s4.g, s4.s, h4.thenE s4 fun k μ5 ι5 k' H5 e5 r5 s5 h5 => ?_⟩
  cases ho1 : putD μ5 x k v with
  | none => rw [ho1] at h5; exact h5.elim
  | some μ6 =>
    rw [ho1] at h5
    simp only [Option.bind_some] at h5
    refine put_any s5.g ho1 (r4.ext0 e5) r5 ((((r1.ext0 e2).ext0 e3).ext0 e4).ext0 e5) fun H6 e6 g6 => ?_
    have s6 : SX X.K X.mg T ι5 Zo Zf H6 μ6 δ σ := ⟨g6, s5.s.ext s5.g e6, s5.dj⟩
    have h6 := h5.mono (ι1 := ι5) (Zf1 := Zf) (e6.mono (by simp)) fun _ z => .inl z
    refine ⟨v2', [], rfl, ?_⟩
    refine ⟨ι5, Zo ++ Zf, Zf, μ6, δ, s6.g, s6.s, h6.thenE s6 fun x2 μ7 ι7 x2' H7 e7 r7 s7 h7 => ?_⟩
    refine ⟨ι7, Zo ++ Zf, Zf, μ7, δ, s7.g, s7.s, h7.thenE s7 fun k2 μ8 ι8 k2' H8 e8 r8 s8 h8 => ?_⟩
    cases ho2 : putD μ8 x2 k2 v2 with
    | none => rw [ho2] at h8; exact h8.elim
    | some μ9 =>
      rw [ho2] at h8
      simp only [Option.bind_some] at h8
      refine put_any s8.g ho2 (r7.ext0 e8) r8 ((((((r2.ext0 e3).ext0 e4).ext0 e5).ext0 e6).ext0 e7).ext0 e8) fun H9 e9 g9 => ⟨rfl, ?_⟩
      exact (h8.mono (e9.mono (by simp)) fun _ z => .inl z).nx ⟨g9, s8.s.ext s8.g e9, s8.dj⟩
/-- x, y, z = e, [], [] -/
theorem s_setl2 {i j l : Nat} {x y z : Str} {a : Expr} {ca : E} {px py pz pt pl pl2 : Pos} {kt k2 pt2} (hc : X.calm = true) (hN : X.N.Nodup) (hi : X.N[i]? = some x) (hj : X.N[j]? = some y) (hl : X.N[l]? = some z) (hij : i ≠ j) (hil : i ≠ l) (hjl : j ≠ l)
    (hx : X.env.scope.names.lookup x = some .local) (hy : X.env.scope.names.lookup y = some .local) (hz : X.env.scope.names.lookup z = some .local) (ha : PE X a (tE X.K X.mg T W ca)) (hst : starEach [a, .List [] pl, .List [] pl2] X.env = (false, eval a X.env) :: starEach [.List [] pl, .List [] pl2] X.env)
    (hw : swappedStores [.Tuple [.Name x px, .Name y py, .Name z pz] kt pt] (.Tuple [a, .List [] pl, .List [] pl2] k2 pt2) X.env = pure (some [x, y, z]))
    (hs : swapsWithSole [.Tuple [.Name x px, .Name y py, .Name z pz] kt pt] (.Tuple [a, .List [] pl, .List [] pl2] k2 pt2) pos.line X.env = pure false) :
    PS X (.Assign [.Tuple [.Name x px, .Name y py, .Name z pz] kt pt] (.Tuple [a, .List [] pl, .List [] pl2] k2 pt2) pos) (tS X.K X.mg T W (.setl2 i j l ca)) :=
  PS.imp (ps_par3 hc hN hi hj hl hij hil hjl hx hy hz (pa_cons ha (pa_cons (pe_lst pa_nil) (pa_cons (pe_lst pa_nil) pa_nil rfl) rfl) hst) hw hs) fun D σ H h => by
    obtain ⟨ι, Zo, Zf, μ, δ, s, hp⟩ := h
    simp only [ex] at hp
    refine ⟨ι, Zo ++ Zf, Zf, μ, δ, s.g, s.s, hp.thenE s fun v μ1 ι1 v' H1 e1 r1 s1 h1 => ?_⟩
    refine ⟨by simp, fun q hq => ?_⟩
    have s2 : SX X.K X.mg T ι1 Zo Zf H1 μ1 (δ.set i (.d v)) (σ.set i (some v')) := ⟨s1.g, s1.s.set r1, s1.dj⟩
    have s3 := s2.newLin (i := j) hq (xs := []) (vs := []) rfl
    have h3 := h1.mono (ι1 := ι1) (Zf1 := q :: Zf) (ext_fresh (o := .lst []) hq) fun z hz => by
      rcases List.mem_cons.mp hz with e | e
      · rw [e]; exact .inr hq
      · exact .inl e
    refine ⟨by simp, fun q2 hq2 => ⟨v', .ref q, .ref q2, rfl, ?_⟩⟩
    refine (h3.mono (ι1 := ι1) (Zf1 := q2 :: q :: Zf) (ext_fresh (o := .lst []) hq2) fun z hz => ?_).nx (s3.newLin hq2 (xs := []) (vs := []) rfl)
    rcases List.mem_cons.mp hz with e | e
    · rw [e]; exact .inr hq2
    · exact .inl e
end
end Mi
set_option Elab.async false
set_option linter.all false
set_option maxRecDepth 100000
set_option maxHeartbeats 4000000
/-! Mk0: names as a def's scope has them. -/
namespace Mi
open PySem PySem.Spec PyProof.Rows L2 RZ
def visB (sc : Scope) (x : Str) : Bool := match sc.names.lookup x with
  | some .local => true
  | some .cell => true
  | some .free => true
  | _ => false
def locB (sc : Scope) (x : Str) : Bool := match sc.names.lookup x with
  | some .local => true
  | some .cell => true
  | _ => false
def glB (sc : Scope) (x : Str) : Bool := (match sc.names.lookup x with
  | some .globalImplicit => true
  | _ => false) && !(x == ("__debug__" : Str)) && !(decide (x = "__name__"))
/-- the names that may be stored to -/
def LocOk (X : Cx) (sw : Scope) : Prop := ∀ y, locB sw y = true → L2.Loc X.env.scope y ∧ (X.fn y = true ∨ X.env.scope.names.lookup y = some .local)
theorem vis_of {sc : Scope} {x : Str} (h : visB sc x = true) : Vis sc x := by
  unfold visB at h
  unfold Vis
  split at h
  · exact .inl ‹_›
  · exact .inr (.inl ‹_›)
  · exact .inr (.inr ‹_›)
  · cases h
theorem loc_of {sc : Scope} {x : Str} (h : locB sc x = true) : L2.Loc sc x := by
  unfold locB at h
  unfold L2.Loc
  split at h
  · exact .inl ‹_›
  · exact .inr ‹_›
  · cases h
theorem locOk_blk {X : Cx} {scope : Scope} {s : Shared} {H : Hp} {cl : List (Str × Addr)} {a : Addr} {fp : List Addr} : LocOk (X.blk s H scope (compEnvC scope cl a X.env) fp) scope := fun y h => by
  have keep : ∀ k, k ≠ NameKind.free → scope.names.lookup y = some k → (relS scope X.env.scope).names.lookup y = some k := fun k hk e => lookup_relS_keep hk e
  rcases loc_of h with e | e
  · have e2 := keep _ (by decide) e
    exact ⟨.inl e2, .inr e2⟩
  · exact ⟨.inr (keep _ (by decide) e), .inl (by show (scope.names.lookup y == some .cell) = true; rw [e]; rfl)⟩
theorem gl_of {sc : Scope} {x : Str} (h : glB sc x = true) : sc.names.lookup x = some .globalImplicit ∧ (x == ("__debug__" : Str)) = false ∧ x ≠ "__name__" := by
  unfold glB at h
  simp only [Bool.and_eq_true, Bool.not_eq_true', decide_eq_false_iff_not] at h
  obtain ⟨⟨h1, h2⟩, h3⟩ := h
  split at h1
  · exact ⟨‹_›, h2, h3⟩
  · cases h1
end Mi
set_option Elab.async false
set_option linter.all false
set_option maxRecDepth 100000
set_option maxHeartbeats 4000000
/-! Nx: exceptions with an attribute: made by their own __init__, caught, read. -/
namespace L2
open PySem PySem.Spec PyProof.Rows
section
variable {X : Cx} {o e : Expr} {es : List Expr} {to te : TE} {ta : TA} {f : Str} {p p' p1 p2 pos : Pos}
/-- C(e, ..), C's own __init__ keeping sp; nothing is handled -/
theorem pmk_oexN {CX : CXT} {x : Str} {C fI : Addr} {k : Nat} {fd : FuncData} {ps : List Str} {sp : Sp} {ds : List Value} {dvs : List V} (T : OexC X.K C) (iC : PySem.W.findIn X.K (.ref C) "__init__" = some (some (.ref fI))) (tI : PySem.W.typeIn X.K (.ref fI) = some (.type "function"))
    (F1 : FnOk X.prog X.w X.K X.mg X.base CX k fI fd ps sp) (hr : Room (k + 1) X.A) (hb : Binds X.K fd ps ds) (hd : Vals dvs ds) (hx : Passes CX X (fun _ _ _ => False)) (hg : Gl X x) (hm : X.mg x = some (.ref C)) (ha : PA X (e :: es) ta)
    (hdb : (x == ("__debug__" : Str)) = false) (he : starEach (e :: es) X.env = (false, eval e X.env) :: starEach es X.env) (hpl : (backTo pos (starEach es X.env)).any (·.1) = false) :
    L2N.PMk X (.Call (.Name x p) (e :: es) [] pos) (tMkO C sp dvs ta) := by
  intro pins s σ H Q I h
  obtain ⟨nm, q, N, bs, bm, sn, sub, ab, col, dd, k0, k1, k2, k3, k5, hC, hbm⟩ := T.cls
  refine wpAny_Call_Name_kw (ld_glob I hg hm ?_ hdb)
  refine PySem.W.callWith_K (h₀ := X.base) I.ok.mod.kin T.kC (thn (ha.run pos pins s σ H _ I h) fun us s1 ⟨vs, H1, I1, r1, hz, q1⟩ => ⟨I1.kIn, ?_⟩) he hpl
  show wpAny _ _ (call (.ref C) us) _ _ _
  obtain ⟨hp, g, dr, tk, os⟩ := s1
  have hsz : hp.objs.size ≤ hp.objs.size + 1 := Nat.le_succ _
  have hn : H1 (hp.objs.size + 1) = none := I1.hok.fresh hsz
  have hq := q1 (hp.objs.size + 1) hn
  have kk : ∀ b o, hp.get? b = some o → ((hp.push (PySem.W.kdv_tup us)).push (PySem.HandSPX.excO C hp.objs.size)).get? b = some o := fun b o e => Heap.get?_push_of_some _ (Heap.get?_push_of_some _ e)
  have hget : ((hp.push (PySem.W.kdv_tup us)).push (PySem.HandSPX.excO C hp.objs.size)).get? (hp.objs.size + 1) = some (PySem.HandSPX.excO C hp.objs.size) := by heap_get
  have I2 : Inv X pins σ (upd H1 (hp.objs.size + 1) (exo (hp.objs.size + 1) C none)) ⟨(hp.push (PySem.W.kdv_tup us)).push (PySem.HandSPX.excO C hp.objs.size), g, dr, tk, os⟩ :=
    I1.laid (t' := tk) (a := hp.objs.size + 1) (o := exo (hp.objs.size + 1) C none) (h' := (hp.push (PySem.W.kdv_tup us)).push (PySem.HandSPX.excO C hp.objs.size)) kk hsz (exo_ok hget)
  have r2 : Vals (V.ref (hp.objs.size + 1) :: (vs ++ dvs)) (Value.ref (hp.objs.size + 1) :: (us ++ ds)) := .cons rfl (r1.append hd)
  have hl : (Value.ref (hp.objs.size + 1) :: us ++ ds).length = ps.length := by
    have e := r2.length
    rw [F1.len _ _ _ _ hq] at e
    exact e.symm
  have hus : us.length ≤ sizeLine := by
    rw [← Paired.length r1, sizeLine_eq]
    omega
  refine wpAny_call (PySem.HandSPX.call_own F.excBase_ValueError (fun Y => PySem.HandSPX.refsVE_contains Y bm hbm) (I1.kIn _ _ hC) (PySem.W.looks_findIn I1.kIn iC) (fun self => PySem.W.bind_fn I1.kIn self tI) hus
    (codeAny_mono (F1.run _ X.stack _ _ ⟨Value.ref (hp.objs.size + 1) :: us, []⟩ (Value.ref (hp.objs.size + 1) :: (us ++ ds)) _ _ (fun _ _ _ => False) (hr.make C us []) (I2.env0.make C us []) (hb _ (Value.ref (hp.objs.size + 1) :: us) I2.kIn hl) r2 hq) fun r s' hq' => ?_))
  cases r with
  | error er => exact hx pins σ _ _ er s' I2 hq'
  | ok fl =>
    cases fl with
    | ret u =>
      obtain ⟨v, H2, os2, bare2, un2, hok2, rv, ev, d, fs, ea, ed, hd1, q2⟩ := hq'
      subst ev
      obtain ⟨h2, g2, d2, t2, os'⟩ := s'
      obtain ⟨t0, G, J, kG, ge, hoe, na⟩ := mk_end0 (d2 := d2) (t2 := t2) I1 hsz kk un2 hok2 os2 bare2 ea ed hd1
      exact ⟨rv, _, _, _, ⟨G, g2, d2, t2, os'⟩, _, .ref C, some d, rfl, J, kG, ge, hoe, ⟨rfl, rfl, fun vs e => by cases e; rfl⟩, rfl, rfl, na, rfl, bare2, raises_own T.exC T.tyC, q2⟩
    | next => exact False.elim hq'
    | brk => exact False.elim hq'
    | cont => exact False.elim hq'
/-- what is known of a class whose __init__ is ValueError's -/
structure CiC (K : PySem.W.Frag) (CE : Addr) : Prop where
  rd : PySem.W.readsIn K CE (.type "type") = true
  ga : PySem.W.specialIn K (.ref CE) "__getattribute__" = some (some (.builtin "type.__getattribute__"))
  ini : PySem.W.findCls K (.ref CE) (.type "type") "__init__" = some (.val (.builtin "ValueError.__init__"))
/-- C.__init__(self, ..), C's __init__ being ValueError's -/
theorem pe_cinit {pl : Sem Bool} {x : Str} {CE : Addr} (hg : Gl X x) (hm : X.mg x = some (.ref CE)) (T : CiC X.K CE) (ha : PA X (e :: es) ta) (hdb : (x == ("__debug__" : Str)) = false)
    (hc : eval (.Call (.Attribute (.Name x p1) "__init__" p2) (e :: es) [] pos) X.env = (do
      let ov ← eval (.Name x p1) X.env
      standAt p2.atName
      let (f, first) ← holding [ov] (getMethod ov "__init__" pl)
      callWith pos f first (backTo pos (starEach (e :: es) X.env)) (backToKw pos (keywordEach [] X.env))))
    (he : starEach (e :: es) X.env = (false, eval e X.env) :: starEach es X.env) (hpl : (backTo pos (starEach es X.env)).any (·.1) = false) :
    PE X (.Call (.Attribute (.Name x p1) "__init__" p2) (e :: es) [] pos) (tVeI X.K ta) := by
  refine ⟨fun pins s σ H Q I h => ?_⟩
  refine PySem.W.methodCall_KW (ld_glob I hg hm ?_ hdb) hc
  refine PySem.W.method_cls I.kIn T.ga (PySem.W.cls_value I.kIn T.rd T.ini (by decide +kernel) ?_)
  show wpAny _ _ (callWith pos (Value.builtin "ValueError.__init__") [] (backTo pos (starEach (e :: es) X.env)) []) _ _ _
  refine PyProof.Rows.callWith_method1 (thn (ha.run pos pins _ σ H _ (I.tok _) h) fun us s1 ⟨vs, H1, I1, r1, a, C, ws, ev, hl, T, ea, q⟩ => ?_) he hpl
  subst ev
  cases r1 with
  | @cons _ u0 _ ur ra rw' =>
    obtain rfl : u0 = Value.ref a := ra
    have hlen : ur.length ≤ sizeLine := by
      rw [← Paired.length rw', sizeLine_eq]
      omega
    exact oinit_ok T I1 ea hlen fun s' J => ⟨.non, H1, J, rfl, q⟩
end
end L2
set_option Elab.async false
set_option linter.all false
set_option maxRecDepth 100000
set_option maxHeartbeats 4000000
/-! Nxa: an __init__ that keeps one attribute; raise C(e); try: return f(x) except C as e: return e.line. -/
namespace Mi
open PySem PySem.Spec PyProof.Rows L2 RZ
/-- Base.__init__(self, '..'); self.f = l -/
def iniOf (N : List Str) (sc : Scope) : List Stmt → Option (Str × Str)
  | [.Expr (.Call (.Attribute (.Name b _) m p2) [.Name s _, .Constant (.str _) _ _] [] p3) _, .Assign [.Attribute (.Name s2 _) f _] (.Name l _) _] =>
    if (m = "__init__" ∧ s = "self" ∧ s2 = "self" ∧ N = ([("self" : Str), l] : List Str)) ∧ glB sc b = true ∧ locB sc "self" = true ∧ locB sc l = true ∧ (l == ("__debug__" : Str)) = false ∧ (l == ("__classdict__" : Str)) = false ∧ (p2.endLine == p3.line) = true then some (b, f) else none
  | _ => none
def spI (K : PySem.W.Frag) (f : Str) : Sp := fun vs H Q E => ∃ (a C : Addr) (i : Int), vs = [.ref a, .int i] ∧ OexC K C ∧ PySem.W.findIn K (.ref C) f = some none ∧ H a = some (exo a C none) ∧
  ∀ dx, H dx = none → dx ≠ a → Q .non (upd (upd H dx (exd dx [(f, .int i)])) a (exo a C (some dx)))
theorem call_eq2 {b m z : Str} {p1 p2 ps pc pos : Pos} {c : Const} {j : Nat} {env : Env} (hl : (p2.endLine == pos.line) = true) :
    eval (.Call (.Attribute (.Name b p1) m p2) [.Name z ps, .Constant c j pc] [] pos) env = (do
      let ov ← eval (.Name b p1) env
      standAt p2.atName
      let (f, first) ← holding [ov] (getMethod ov m (do return (← importBound (.Name b p1) env).getD true))
      callWith pos f first (backTo pos (starEach [.Name z ps, .Constant c j pc] env)) (backToKw pos (keywordEach [] env))) := by
  have e : methodCallPos true (.Name b p1) env p2 pos = pure pos := by unfold methodCallPos; simp [hl]
  have f : methodCallForm 2 (backTo pos (starEach [.Name z ps, .Constant c j pc] env)) (backToKw pos (keywordEach [] env)) = true := rfl
  show (do
    let ov ← eval (.Name b p1) env
    standAt p2.atName
    methodCall (.Name b p1) m p2 pos env ov 2 (backTo pos (starEach [.Name z ps, .Constant c j pc] env)) (backToKw pos (keywordEach [] env))) = _
  unfold methodCall
  rw [f, e]
  rfl
theorem init_ok {P : Program} {w : World} {K : PySem.W.Frag} {mg : Str → Option Value} {base : Heap} {qual : Str} {params : Arguments} {body : List Stmt} {scope : Scope} {fI CE : Addr} {fd : FuncData} {N : List Str} {b f : Str} {k : Nat}
    (FD : FunD K "__init__" qual params body scope [] [] fI fd) (S : FnScope N N scope) (h : iniOf N scope body = some (b, f)) (hb : mg b = some (.ref CE)) (TC : CiC K CE) : FnOk P w K mg base (L2N.CX P w) (k + 1) fI fd N (spI K f) := by
  obtain ⟨oc, od, dV, kV, doc, pm, an, cdv, ct, osl, rfl, lk, hcd, _, _⟩ := FD.ex
  unfold iniOf at h
  split at h
  · rename_i b1 _ m _ s _ _ _ _ _ _ s2 _ f1 _ l _ _
    split at h
    · rename_i hq
      obtain ⟨⟨rfl, rfl, rfl, rfl⟩, h1, h2, h3, h4, h5, h6⟩ := hq
      cases h
      refine fn_of lk hcd S (fun vs H Q E h => by obtain ⟨a, C, i, rfl, _⟩ := h; rfl) fun A outer s H vs Q E hr h => ?_
      obtain ⟨a, C, i, rfl, T, hf, ha, hq⟩ := h
      have v1 : Vis scope "self" := (loc_of h2).elim (fun k => .inl k) (fun k => .inr (.inl k))
      have v2 : Vis scope l := (loc_of h3).elim (fun k => .inl k) (fun k => .inr (.inl k))
      refine ⟨_, pss_cons (ps_expr (pe_cinit (X := cxOf (L2N.CX P w) P w K mg base ["self", l] qual scope fI cdv A outer s H E) (gl_of h1).1 hb TC (pa_cons (pe_var (i := 0) rfl v1) (pa_cons pe_str pa_nil)) (gl_of h1).2.1 (call_eq2 h6) rfl rfl) rfl)
        (pss_one (ps_ost (pe_var (i := 0) rfl v1) (pe_var (i := 1) rfl v2 h4 h5) rfl)), ?_⟩
      refine ⟨.ref a, rfl, a, C, [.str _], rfl, by show 1 ≤ 1000; decide, T, ha, .int i, rfl, .ref a, rfl, a, C, rfl, T, hf, .inl ⟨ha, hq⟩⟩
    · cases h
  · cases h
/-- what is known of a class of exceptions with an attribute, made by its own __init__ -/
structure XcD (P : Program) (w : World) (K : PySem.W.Frag) (mg : Str → Option Value) (base : Heap) (j : Nat) (c : Str) (C : Addr) : Prop where
  gl : mg c = some (.ref C)
  ox : OexC K C
  no : PySem.W.findIn K (.ref C) (xattr c) = some none
  ini : ∃ fI fd ps, PySem.W.findIn K (.ref C) "__init__" = some (some (.ref fI)) ∧ PySem.W.typeIn K (.ref fI) = some (.type "function") ∧ Binds K fd ps [] ∧ FnOk P w K mg base (L2N.CX P w) j fI fd ps (spI K (xattr c))
section
variable {X : Cx} {T : TW} {W : WX} {pos : Pos}
theorem upd_del {H : Hp} {a d : Addr} {o u v : HO} (ha : H a = none) (hd : H d = none) (hne : d ≠ a) : upd (del (upd (upd (upd H a o) d u) a v) a) d (.xd fs) = upd H d (.xd fs) := by
  funext b
  by_cases h1 : b = d
  · rw [h1, upd_same, upd_same]
  · rw [upd_ne h1, upd_ne h1]
    by_cases h2 : b = a
    · rw [h2, del_same, ha]
    · rw [del_ne h2, upd_ne h2, upd_ne h1, upd_ne h2]
theorem s_raisep {c : Str} {C : Addr} {e : Expr} {ce : E} {p : Pos} {p2 : Pos} {j : Nat} (hc : X.calm = true) (tk : L2N.Takes X W) (D : XcD X.prog X.w X.K X.mg X.base j c C) (hr : Room (j + 1) X.A) (hg : Gl X c) (hdb : (c == ("__debug__" : Str)) = false) (he : PE X e (tE X.K X.mg T W ce)) (hs : starEach [e] X.env = [(false, eval e X.env)]) :
    PS X (.Raise (some (.Call (.Name c p) [e] [] p2)) none pos) (tS X.K X.mg T W (.raisep c ce)) := by
  obtain ⟨fI, fd, ps, i1, i2, i3, i4⟩ := D.ini
  refine PS.imp (L2N.ps_raise hc tk (pmk_oexN (sp := spI X.K (xattr c)) (dvs := []) D.ox i1 i2 i4 hr i3 .nil (fun pins σ H s e s' I ⟨_, _, _, _, _, _, _, _, _, _, _, _, z⟩ => z.elim) hg D.gl (pa_cons he pa_nil hs) hdb hs rfl)) fun E σ H h => ?_
  obtain ⟨ι, Zo, Zf, μ, δ, s, hp⟩ := h
  simp only [ex] at hp
  refine ⟨ι, Zo ++ Zf, Zf, μ, δ, s.g, s.s, hp.thenE s fun x μ1 ι1 v H1 e1 r1 s1 h1 => ?_⟩
  cases x with
  | int i =>
    have r1' : v = V.int i := r1
    subst r1'
    refine ⟨by show 1 ≤ 1000; decide, fun a ha => ⟨a, C, i, rfl, D.ox, D.no, upd_same, fun dx hdx hne => ⟨rfl, dx, [(xattr c, .int i)], upd_same, by rw [upd_ne hne, upd_same], ?_, ?_⟩⟩⟩
    · rw [upd_ne hne] at hdx; exact hdx
    · have hd1 : H1 dx = none := by rw [upd_ne hne] at hdx; exact hdx
      rw [upd_del ha hd1 hne]
      have h2 : pS X.K X.mg T W (some (.ex (c, some (.int i)), δ, μ1)) ι1 Zo Zf H1 E := h1
      exact h2 ι1 Zf σ _ (ext_fresh hd1) (fun _ z => .inl z) ⟨s1.g.fresh hd1, s1.s.ext s1.g (ext_fresh hd1), s1.dj⟩ _ _ ⟨⟨C, D.gl, rfl⟩, dx, rfl, upd_same⟩
  | _ => exact h1.elim
end
/-! ### try: return f(x) except C as e: return e.line -/
def readS (F : Sem) (c : Str) : Sem := fun xs μ => match F xs μ with
  | some (.ok d, μ) => some (.ok d, μ)
  | some (.error (c', some (.int i)), μ) => if c' = c then some (.ok (.int i), μ) else none
  | _ => none
theorem start_sx {K : PySem.W.Frag} {mg : Str → Option Value} {T : TW} {ι Z : List Addr} {H : Hp} {μ : List Mo} {ds : List Mi.D} {vs : List V} {N : List Str} {n : Nat} (hl : vs.length = n) (g : RG K mg T ι Z H μ) (r : Rps K mg ι Z H ds vs) : SX K mg T ι Z [] H μ (ds.map .d ++ List.replicate (N.length - n) .un) (L2.start N vs) := by
  refine ⟨by simpa using g, ?_, by simp⟩
  have hlen : ds.length = vs.length := r.length
  have slots : ∀ (i : Nat) (y : Sl), (ds.map Sl.d ++ List.replicate (N.length - n) Sl.un)[i]? = some y → y = .un ∨ ∃ d v, y = .d d ∧ (L2.start N vs)[i]? = some (some v) ∧ Rp K mg ι (Z ++ []) H d v := fun i y hy => by
    by_cases hi : i < ds.length
    · rw [List.getElem?_append_left (by simpa using hi), List.getElem?_map] at hy
      cases hd : ds[i]? with
      | none => rw [hd] at hy; cases hy
      | some d =>
        rw [hd] at hy
        cases hy
        obtain ⟨v, h1, h2⟩ := r.get hd
        refine .inr ⟨d, v, rfl, ?_, by simpa using h2⟩
        unfold L2.start
        rw [List.getElem?_append_left (by rw [List.length_map, ← hlen]; exact hi), List.getElem?_map, h1]
        rfl
    · rw [List.getElem?_append_right (by simpa using hi)] at hy
      rw [List.getElem?_replicate] at hy
      split at hy <;> cases hy
      exact .inl rfl
  refine ⟨?_, fun i y hy => ?_, fun i j xs ys a h1 => ?_, by simp⟩
  · unfold L2.start
    simp [hlen, hl]
  · rcases slots i y hy with rfl | ⟨d, v, rfl, h1, h2⟩
    · trivial
    · exact ⟨v, h1, h2⟩
  · rcases slots i _ h1 with e | ⟨_, _, e, _⟩ <;> cases e
def readOf (N : List Str) (sc : Scope) : List Stmt → Option (Str × Str × Str)
  | [.Try [.Return (some (.Call (.Name g _) [.Name v _] [] _)) _] [.ExceptHandler (some (.Name c _)) (some n) [.Return (some (.Attribute (.Name n2 _) f _)) _] _] [] [] _] =>
    if (n2 = n ∧ N = ([v, n] : List Str)) ∧ (sc.names.lookup n == some NameKind.local) = true ∧ visB sc v = true ∧ glB sc g = true ∧ glB sc c = true ∧ ((v == ("__debug__" : Str)) = false ∧ (v == ("__classdict__" : Str)) = false) ∧ (n == ("__debug__" : Str)) = false ∧ (n == ("__classdict__" : Str)) = false then some (g, c, f) else none
  | _ => none
theorem read_ok {P : Program} {w : World} {K : PySem.W.Frag} {mg : Str → Option Value} {base : Heap} {T : TW} {x qual : Str} {params : Arguments} {body : List Stmt} {scope : Scope} {fR C : Addr} {fd : FuncData} {N ps : List Str} {g c f v0 : Str} {F : Sem} {k : Nat}
    (FD : FunD K x qual params body scope [] [] fR fd) (S : FnScope N [v0] scope) (nd : N.Nodup) (h : readOf N scope body = some (g, c, f)) (hN : N = [v0, N.getD 1 ""]) (hg : ∃ fG fdG psG, mg g = some (.ref fG) ∧ PySem.W.keepIn K (.ref fG) = true ∧ Binds K fdG psG [] ∧ FnOk P w K mg base (L2N.CX P w) k fG fdG psG (spF K mg T 1 F))
    (hc : mg c = some (.ref C)) (hx : PySem.W.exmOne K (.ref C) (.ref C) = some true) (hxf : XfC K C) (hno : PySem.W.findIn K (.ref C) f = some none) (hf : f = xattr c) : FnOk P w K mg base (L2N.CX P w) (k + 1) fR fd [v0] (spF K mg T 1 (readS F c)) := by
  obtain ⟨oc, od, dV, kV, doc, pm, an, cdv, ct, osl, rfl, lk, hcd, _, _⟩ := FD.ex
  obtain ⟨fG, fdG, psG, hmG, hkG, hbG, FG⟩ := hg
  unfold readOf at h
  split at h
  · rename_i g1 _ v _ _ _ c1 _ n n2 _ f1 _ _ _ _
    split at h
    · rename_i hq
      obtain ⟨⟨rfl, rfl⟩, h1, h2, h3, h4, ⟨h5, h6⟩, h7, h8⟩ := hq
      cases h
      have ev0 : v = v0 := by
        have := congrArg (fun l => l.head?) hN
        simpa using this
      subst ev0
      have hl : scope.names.lookup n2 = some .local := eq_of_beq h1
      refine fn_of lk hcd S (fun vs H Q E h => h.1) fun A outer s H vs Q E hr h => ?_
      obtain ⟨hlen, ι, Z, μ, ds, rg, r, hp⟩ := h
      refine ⟨_, pss_one (L2N.ps_try_as (X := cxOf (L2N.CX P w) P w K mg base [v, n2] qual scope fR cdv A outer s H E) (c := .ref C) (i := 1) (Wout := fun _ _ _ _ => False)
        (tb := fun W => tSs K mg T W (.cons (.ret (.call F (.cons (.var 0) .nil))) .nil))
        (ts := fun a cls d => fun D σ H => σ[1]? = some (some (.ref a)) ∧ cls = .ref C ∧ ∃ dd fs i, d = some dd ∧ H dd = some (.xd fs) ∧ fs.lookup f = some (.int i) ∧ D.rt (.int i) H)
        rfl rfl (by exact nd) rfl hl ⟨(gl_of h4).1, (gl_of h4).2.1, .inl hc⟩ (fun u s' x => ?_) (fun W pn xe tk po => ?_) (fun a oe cls d pn hz hv => ?_)), ?_⟩
      · obtain ⟨_, _, _, _, _, _, _, _, _, _, _, _, _, _, _, _, z⟩ := x
        exact z.elim
      · exact ss_cons (s_ret (m_call (X := (cxOf (L2N.CX P w) P w K mg base [v, n2] qual scope fR cdv A outer s H E).tr pn xe) FG hr (gl_of h3).1 hmG hkG hbG tk rfl (m_cons (m_var rfl (vis_of h2) h5 h6) m_nil rfl) (gl_of h3).2.1 rfl rfl (fun δ μ xs μ' e => by
          simp only [evs] at e
          revert e
          cases ev (.var 0) δ μ with
          | none => intro e; cases e
          | some r =>
            obtain ⟨r, μ2⟩ := r
            cases r with
            | error _ => intro e; cases e
            | ok d => intro e; cases e; rfl))) ss_nil
      · by_cases hcls : cls = .ref C
        · subst hcls
          refine PSs.imp (pss_one (ps_ret (pe_xf (X := cxOf (L2N.CX P w) P w K mg base [v, n2] qual scope fR cdv A outer s H E) hxf hno hz.zc hv (pe_var (i := 1) rfl (.inl hl) h7 h8)))) fun D σ H h => ?_
          obtain ⟨e1, e2, dd, fs, i, e3, e4, e5, e6⟩ := h
          exact ⟨.ref a, e1, rfl, rfl, dd, fs, .int i, e3, e4, e5, e6⟩
        · exact ⟨fun pins s' σ H' D I ⟨_, e2, _⟩ => absurd e2 hcls⟩
      · obtain ⟨d0, rfl⟩ : ∃ d, ds = [d] := by
          have := r.length
          rw [hlen] at this
          match ds, this with
          | [d], _ => exact ⟨d, rfl⟩
        refine ⟨ι, Z, [], μ, [.d d0, .un], start_sx (N := [v, n2]) (n := 1) hlen rg r, ?_⟩
        simp only [exs, ex, ev, evs]
        show pS K mg T _ (thenS (thenE (bindR (bindR (retR d0 μ) fun x μ => bindR (retR [] μ) fun xs μ => retR (x :: xs) μ) fun xs μ => F xs μ) [.d d0, .un] fun x μ => some (.rt x, [.d d0, .un], μ)) fun δ μ => some (.nx, δ, μ)) ι Z [] H _
        simp only [retR, bindR]
        unfold readS at hp
        cases hq : F [d0] μ with
        | none => rw [hq] at hp; exact hp.elim
        | some rr =>
          obtain ⟨rr, μ1⟩ := rr
          rw [hq] at hp
          match rr, hp with
          | .ok d, hp2 =>
            intro ι1 Zf1 σ1 H1 e1 z1 s1 v r1
            exact hp2 ι1 _ H1 (e1.mono (by simp)) (s1.g.weakZ fun z q => List.mem_append_left _ q) (r1.weak fun z q => List.mem_append_left _ q)
          | .error (c', some (.int i)), hp2 =>
            intro ι1 Zf1 σ1 H1 e1 z1 s1 cv dx xr
            have hp3 : post K mg T (Rp K mg) ι Z H (if c' = c then some (.ok (.int i), μ1) else none) Q E := hp2
            by_cases hcc : c' = c
            · rw [if_pos hcc] at hp3
              subst hcc
              obtain ⟨⟨C', hC', rfl⟩, dd, rfl, hdd⟩ := xr
              rw [hc] at hC'
              cases hC'
              refine ⟨true, hx, fun _ a ha => ⟨?_, rfl, dd, [(xattr c', .int i)], i, rfl, hdd, ?_, ?_⟩, fun z => by cases z⟩
              · have := s1.s.len
                rw [List.getElem?_set_self]
                simp at this
                omega
              · rw [hf]; simp [List.lookup]
              · exact hp3 ι1 (.int i) H1 (e1.mono (by simp)) (s1.g.weakZ fun z q => List.mem_append_left _ q) rfl
            · rw [if_neg hcc] at hp3
              exact hp3.elim
          | .error (c', none), hp2 => exact hp2.elim
    · cases h
  · cases h
end Mi
set_option Elab.async false
set_option linter.all false
set_option maxRecDepth 100000
set_option maxHeartbeats 4000000
/-! Nb: the ends of iterators while an exception is handled. -/
namespace Mh
open PySem PySem.Spec PyProof.Rows HotX
section
variable {prog : Program} {w : World} {A : Around} {E : Value → Shared → Prop} {s : Shared} {x1 : Addr}
theorem hot_ext {h h' : Heap} (c : HotAt A x1 h) (k : ∀ o, h.get? x1 = some o → h'.get? x1 = some o) : HotAt A x1 h' := by
  obtain ⟨a, o, vs, b, d⟩ := c
  exact ⟨a, o, vs, k _ b, d⟩
theorem hot_in {h : Heap} (c : HotAt A x1 h) : HotAt A.in1 x1 h := c
/-- raise StopIteration, of a built-in's own -/
theorem stop_hot {α : Type} {Q : α → Shared → Prop} (c : HotAt A x1 s.heap)
    (hE : ∀ h' e, (∀ b o, s.heap.get? b = some o → h'.get? b = some o) → (∃ o, h'.get? e = some o ∧ o.cls = .type "StopIteration") → E (.ref e) { s with heap := h' }) :
    wpAny (model prog w) A (newExc (.type "StopIteration") []) (fun e s' => wpAny (model prog w) A (raiseNew e : Sem α) Q E s') E s := by
  obtain ⟨hh, o1, vs1, g1, d1, c1⟩ := c
  simp only [newExc, newTuple]
  refine wpAny_bind (wpAny_newObj_type (wpAny_bind (m := firstArgMember _ _) (wpAny_of_eq (a := Value.none) (by first | rfl | (simp only [firstArgMember]; rfl)) (wpAny_newObj_type ?_ (by size_fits)))) (by size_fits))
  refine raiseNew_hot (x1 := x1) ⟨hh, o1, vs1, Heap.get?_push_of_some _ (Heap.get?_push_of_some _ g1), d1, c1⟩ (Nat.ne_of_lt (Heap.lt_size (Heap.get?_push_of_some _ g1))) (Heap.get?_push_size _ rfl) rfl (by first | (simp; done) | (simp; omega) | (simp only [Array.size_append]; simp; omega)) ?_
  refine hE _ _ (fun b o e => ?_) ⟨_, Heap.get?_update_self _ (Heap.get?_push_size _ rfl) rfl, rfl⟩
  rw [Heap.get?_update_other _ _ (Nat.ne_of_gt (Heap.lt_size (Heap.get?_push_of_some _ e)))]
  exact Heap.get?_push_of_some _ (Heap.get?_push_of_some _ e)
theorem ne_iter {h : Heap} {it l : Addr} {i : Nat} (c : HotAt A x1 h) (hit : h.IsListIter it l i) : x1 ≠ it := by
  rintro rfl
  obtain ⟨_, o, vs, e, d, q⟩ := c
  obtain ⟨o', e', _, d'⟩ := hit
  rw [e] at e'
  cases e'
  rw [d] at d'
  cases d'
  simp at q
theorem nextOf_list_end_hot {it l : Addr} {i : Nat} {items} {Q : Value → Shared → Prop} (c : HotAt A x1 s.heap) (hit : s.heap.IsListIter it l i) (hl : s.heap.IsList l items) (hx : items[i]? = none)
    (hE : ∀ h' e, Heap.ExtBut it s.heap h' → (∃ o, h'.get? e = some o ∧ o.cls = .type "StopIteration") → E (.ref e) { s with heap := h' }) : wpAny (model prog w) A (Builtin.SmallTypes.nextOf (.ref it)) Q E s := by
  have ne := ne_iter c hit
  obtain ⟨o, ho, hc, hd⟩ := id hit
  obtain ⟨ol, hol, _, nl, hdl⟩ := hl
  unfold Builtin.SmallTypes.nextOf
  refine wpAny_bind (wpAny_callSpecial?_slot (name := Str.ofString "__next__") hit.typeIs slot_listiter_next (wpAny_call_entry slot_listiter_next hit.typeIs entry_listiter_next ?_ (args_listiter_next _)))
  show wpAny _ _ (field (.ref it) 0 >>= _) _ _ s
  refine wpAny_bind (wpAny_field ho hd (x := .ref l) rfl ?_)
  show wpAny _ _ (if (Value.ref l == Value.none) = true then _ else _) _ _ s
  rw [if_neg (show ¬ ((Value.ref l == Value.none) = true) from Bool.false_ne_true)]
  refine wpAny_bind (wpAny_field ho hd (x := .int i 0) rfl (wpAny_bind (wpAny_seqItems hol hdl ?_)))
  simp only [Int.toNat_natCast, hx]
  refine wpAny_bind (wpAny_rule (wpAny_bind (wpAny_setField ho hd (by simp) ?_)))
  refine wpAny_bind (stop_hot (x1 := x1) (hot_ext (hot_in c) fun b e => ?_) fun h' e k he => hE h' e (fun b o' nb q => k b o' ?_) he)
  · rw [Heap.get?_update_other _ _ ne.symm]; exact e
  · exact (Heap.SameBut.update ..).extBut b o' nb q
theorem ne_zip {h : Heap} {z TI TO : Addr} {f0 : Value} (c : HotAt A x1 h) (hz : IsZip h z TI TO f0) : x1 ≠ z := by
  rintro rfl
  obtain ⟨_, o, vs, e, d, q⟩ := c
  rw [show h.get? x1 = _ from hz] at e
  cases e
  cases d
  simp at q
/-- zip's end, both lists -/
theorem zip_end_hot {z TI TO i1 i2 l1 l2 : Addr} {k1 : Nat} {xs : Array Value} {a b : Value} {Q : Fin → Shared → Prop} (c : HotAt A x1 s.heap) (D : ZipApart z TI TO i1 i2 l1 l2) (hz : IsZip s.heap z TI TO .none) (hTI : IsPair s.heap TI (.ref i1) (.ref i2)) (hTO : IsPair s.heap TO a b)
    (h1 : s.heap.IsListIter i1 l1 k1) (hl1 : s.heap.IsList l1 xs) (hend : xs[k1]? = none)
    (hE : ∀ h' e, (∀ c o, c ≠ z → c ≠ TO → c ≠ i1 → c ≠ i2 → s.heap.get? c = some o → h'.get? c = some o) → (∃ o, h'.get? e = some o ∧ o.cls = .type "StopIteration") → E (.ref e) { s with heap := h' }) :
    wpAny (model prog w) A (Builtin.«zip.__next__» ⟨[.ref z], []⟩) Q E s := by
  have nz := ne_zip c hz
  show wpAny _ _ (field (.ref z) 2 >>= _) _ _ _
  refine wpAny_bind (wpAny_field hz rfl (x := .bool false) rfl (wpAny_bind (wpAny_field hz rfl (x := .ref TI) rfl (wpAny_bind (wpAny_seqItems hTI rfl ?_)))))
  show wpAny _ _ (Builtin.SmallTypes.ownedTupleIsFree (.ref z) >>= _) _ _ _
  refine wpAny_bind ?_
  unfold Builtin.SmallTypes.ownedTupleIsFree
  refine wpAny_bind (wpAny_field hz rfl (x := .none) rfl (wpAny_pure ?_))
  simp only [if_true]
  refine wpAny_bind (wpAny_rule (wpAny_bind (wpAny_field hz rfl (x := .ref TO) rfl (wpAny_bind (wpAny_setField_rec hz (by simp) fun h₁ hz₁ hs₁ => ?_)))))
  replace hz₁ : IsZip h₁ z TI TO .ellipsis := hz₁
  refine wpAny_bind ?_
  simp only [List.zipIdx_cons, List.zipIdx_nil, List.forIn_cons, List.forIn_nil]
  refine wpAny_bind (wpAny_bind (wpAny_onRaise ?_))
  show wpAny _ _ (Builtin.SmallTypes.nextOf (.ref i1) >>= _) _ _ _
  refine wpAny_bind (nextOf_list_end_hot (x1 := x1) (hot_ext c fun o q => hs₁.extBut _ _ nz q) (h1.extBut hs₁.extBut D.i1z) (hl1.extBut hs₁.extBut D.l1z) hend fun h₂ e hs₂ he => ?_)
  obtain ⟨oe, hoe, hce⟩ := he
  have hz₂ : IsZip h₂ z TI TO .ellipsis := hs₂ _ _ D.i1z.symm hz₁
  have hez : e ≠ z := fun x => by subst x; rw [hz₂] at hoe; cases hoe; simp at hce
  exact wpAny_setField_rec hz₂ (by simp) fun h₃ _ hs₃ => hE h₃ e (fun c o c1 _ c3 _ x => hs₃.extBut _ _ c1 (hs₂ _ _ c3 (hs₁.extBut _ _ c1 x))) ⟨oe, hs₃.extBut _ _ hez hoe, hce⟩
theorem next_zip_end_hot {z TI TO i1 i2 l1 l2 : Addr} {k1 : Nat} {xs : Array Value} {a b : Value} {Q : Option Value → Shared → Prop} (c : HotAt A x1 s.heap) (D : ZipApart z TI TO i1 i2 l1 l2) (hz : IsZip s.heap z TI TO .none) (hTI : IsPair s.heap TI (.ref i1) (.ref i2)) (hTO : IsPair s.heap TO a b)
    (h1 : s.heap.IsListIter i1 l1 k1) (hl1 : s.heap.IsList l1 xs) (hend : xs[k1]? = none)
    (hQ : ∀ h', (∀ c o, c ≠ z → c ≠ TO → c ≠ i1 → c ≠ i2 → s.heap.get? c = some o → h'.get? c = some o) → Q none { s with heap := h' }) : wpAny (model prog w) A (pyNext (.ref z)) Q E s := by
  have hT : s.TypeIs (.ref z) "zip" := ⟨_, hz, rfl⟩
  unfold pyNext
  refine wpAny_bind (wpAny_attempt (wpAny_callSpecial?_slot (name := Str.ofString "__next__") hT F.slot_zip_next (wpAny_call_entry F.slot_zip_next hT F.entry_zip_next (zip_end_hot (x1 := x1) (hot_in c) D hz hTI hTO h1 hl1 hend fun h' e hk he => ?_) (F.args_zip_next_1 _))))
  obtain ⟨o, ho, hc⟩ := he
  exact wpAny_bind (wpAny_isInstance (T := "StopIteration") (b := true) ⟨o, ho, hc⟩ isSubtype_stop (wpAny_pure (hQ _ hk)))
/-- a tuple's end -/
theorem ne_tupIter {h : Heap} {it t : Addr} {i : Nat} (c : HotAt A x1 h) (hit : IsTupIter h it t i) : x1 ≠ it := by
  rintro rfl
  obtain ⟨_, o, vs, e, d, q⟩ := c
  obtain ⟨o', e', _, d'⟩ := hit
  rw [e] at e'
  cases e'
  rw [d] at d'
  cases d'
  simp at q
theorem next_tuple_end_hot {it t : Addr} {i : Nat} {items} {Q : Option Value → Shared → Prop} (c : HotAt A x1 s.heap) (hit : IsTupIter s.heap it t i) (ht : IsTup s.heap t items) (hx : items[i]? = none)
    (hQ : ∀ h', Heap.ExtBut it s.heap h' → Q none { s with heap := h' }) : wpAny (model prog w) A (pyNext (.ref it)) Q E s := by
  have ne := ne_tupIter c hit
  obtain ⟨o, ho, hc, hd⟩ := id hit
  obtain ⟨ol, hol, _, nl, hdl⟩ := ht
  unfold pyNext
  refine wpAny_bind (wpAny_attempt (wpAny_callSpecial?_slot (name := Str.ofString "__next__") hit.typeIs slot_tupleiter_next (wpAny_call_entry slot_tupleiter_next hit.typeIs entry_tupleiter_next ?_ (args_tupleiter_next _))))
  show wpAny _ _ (field (.ref it) 0 >>= _) _ _ s
  refine wpAny_bind (wpAny_field ho hd (x := .ref t) rfl ?_)
  show wpAny _ _ (if (Value.ref t == Value.none) = true then _ else _) _ _ s
  rw [if_neg (show ¬ ((Value.ref t == Value.none) = true) from Bool.false_ne_true)]
  refine wpAny_bind (wpAny_field ho hd (x := .int i 0) rfl (wpAny_bind (wpAny_seqItems hol hdl ?_)))
  simp only [Int.toNat_natCast, hx]
  refine wpAny_bind (wpAny_rule (wpAny_bind (wpAny_setField ho hd (by simp) ?_)))
  refine wpAny_bind (stop_hot (x1 := x1) (hot_ext (hot_in c) fun b e => ?_) fun h' e k he => ?_)
  · rw [Heap.get?_update_other _ _ ne.symm]; exact e
  · obtain ⟨oe, hoe, hce⟩ := he
    exact wpAny_bind (wpAny_isInstance (T := "StopIteration") (b := true) ⟨oe, hoe, hce⟩ isSubtype_stop (wpAny_pure (hQ h' fun b o' nb q => k b o' ((Heap.SameBut.update ..).extBut b o' nb q))))
theorem unpackItems_hot {t : Addr} {items : Array Value} {Q : List Value → Shared → Prop} (c : HotAt A x1 s.heap) (ht : IsTup s.heap t items)
    (hQ : ∀ h', Heap.ExtBut s.heap.objs.size s.heap h' → Q items.toList { s with heap := h' }) : wpAny (model prog w) A (unpackItems (.ref t) items.size none) Q E s := by
  have hlt : t ≠ s.heap.objs.size := by obtain ⟨o, ho, _⟩ := ht; exact Nat.ne_of_lt (Heap.lt_size ho)
  have nx : x1 ≠ s.heap.objs.size := by obtain ⟨_, o, vs, e, _⟩ := c; exact Nat.ne_of_lt (Heap.lt_size e)
  unfold unpackItems
  refine wpAny_bind ?_
  unfold notIterableAtAll
  refine wpAny_bind (wpAny_specialOf ht.typeIs slot_tuple_iter.lookup (wpAny_pure ?_))
  simp only [Bool.false_eq_true, if_false]
  refine wpAny_bind (wpAny_holding (iter_tuple ht (wpAny_bind (wpAny_holding (draw_tuple hlt items.size 0 _ _ ⟨_, Heap.get?_push_size _ rfl, rfl, rfl⟩ (ht.push _) (by omega) fun h₁ hit₁ hs₁ => ?_)))))
  have hall : List.take items.size (List.drop 0 items.toList) = items.toList := by rw [List.drop_zero]; exact List.take_of_length_le (by simp)
  rw [hall, if_neg (by simp)]
  refine wpAny_bind (wpAny_holding (next_tuple_end_hot (x1 := x1) (hot_ext c fun o e => hs₁.extBut _ _ nx (Heap.get?_push_of_some _ e)) hit₁ ((ht.push _).extBut hs₁.extBut hlt) (by simp) fun h₂ he₂ => ?_))
  simp only [Option.isSome_none, Bool.false_eq_true, if_false]
  exact wpAny_pure (hQ h₂ fun b o hb e => he₂ b o hb (hs₁.extBut b o hb (Heap.get?_push_of_some _ e)))
theorem assign_Tuple_hot {env : Env} {elts : List Expr} {k} {pos : Pos} {t : Addr} {items : Array Value} {Q : Unit → Shared → Prop} (c : HotAt A x1 s.heap) (ht : IsTup s.heap t items) (hn : (assignEach elts env).length = items.size) (hstar : (assignEach elts env).findIdx? (·.1) = none)
    (h : ∀ h', Heap.ExtBut s.heap.objs.size s.heap h' → wpAny (model prog w) A (assignInOrder ((assignEach elts env).map (·.2)) items.toList) Q E { s with heap := h' }) : wpAny (model prog w) A (assign (.Tuple elts k pos) env (.ref t)) Q E s := by
  rw [assign_Tuple]
  refine wpAny_bind (wpAny_standAt ?_)
  unfold unpack
  rw [hn, hstar]
  exact wpAny_bind (wpAny_holding (unpackItems_hot c ht h))
end
end Mh
set_option Elab.async false
set_option linter.all false
set_option maxRecDepth 100000
set_option maxHeartbeats 4000000
/-! Nc: list comprehensions over zip, and pairs unpacked, while an exception is handled. -/
namespace Mh
open PySem PySem.Spec PyProof.Rows HotX L2 L2H
abbrev St := L2.St
/-- wherever the context holds, the handled exception stands bare -/
def HotI (X : Cx) : Prop := ∀ (pins : List (Addr × Obj)) (σ : St) (H : Hp) (s : Shared), Inv X pins σ H s → ∃ x1, HotAt X.A x1 s.heap
theorem HotI.of {X : Cx} (c : HotC X) : HotI X := fun _ _ _ _ I => c.at I
theorem HotI.blk {X : Cx} (c : HotC X) {pins : List (Addr × Obj)} {σ : St} {H : Hp} {s : Shared} {scope : Scope} {e : Env} {fp : List Addr} (I : Inv X pins σ H s) (hf : ∀ b ∈ fp, FpOk X pins H b) : HotI (X.blk s H scope e fp) := fun pins' σ' H' s' I' => by
  obtain ⟨p, ⟨hh, v1, e1, c1⟩, hp⟩ := c
  obtain ⟨a1, a2, a3, a4, a5⟩ := I.pin p (List.mem_append_left _ hp)
  refine ⟨p.1, hh, p.2, v1, I'.base.keep p.1 p.2 a1 a2 (fun z => ?_) (fun z => ?_), e1, c1⟩
  · exact (List.mem_cons.mp (I.stkSub p.1 z)).elim a3 a4
  · obtain ⟨_, _, _, _, _, f5⟩ := hf _ z
    exact f5 p (List.mem_append_left _ hp) rfl
/-- what an iterator does there -/
structure TurnI (P : Program) (w : World) (K : PySem.W.Frag) (tg : Expr) (J : It) (fp : List Addr) (it : Addr) (tn : Nat → Heap → Prop) : Prop where
  obj : ∀ i h, tn i h → ∀ b ∈ fp, ∃ o, h.get? b = some o ∧ ∀ v, o.data ≠ .cell v
  keep : ∀ i h h', tn i h → (∀ b ∈ fp, ∀ o, h.get? b = some o → h'.get? b = some o) → tn i h'
  item : ∀ (X : Cx), X.prog = P → X.w = w → X.K = K → HotI X → ∀ (i : Nat) (pins : List (Addr × Obj)) (s : Shared) (σ : St) (H : Hp) (E : Value → Shared → Prop), Inv X pins σ H s → (∀ b ∈ fp, FpOk X pins H b) → tn i s.heap → J.go i H →
    wpAny (model P w) X.A (pyNext (.ref it)) (fun r s1 => ∃ u, r = some u ∧ wpAny (model P w) X.A (letOwnedTupleGo tg (.ref it) u) (fun _ s2 => ∃ x H', Inv X pins σ H' s2 ∧ RelV x u ∧ J.yld i H x H' ∧ tn (i + 1) s2.heap ∧ ∀ b ∈ fp, H' b = none) E s1) E s
  done : ∀ (X : Cx), X.prog = P → X.w = w → X.K = K → HotI X → ∀ (i : Nat) (pins : List (Addr × Obj)) (s : Shared) (σ : St) (H : Hp) (E : Value → Shared → Prop), Inv X pins σ H s → (∀ b ∈ fp, FpOk X pins H b) → tn i s.heap → J.stop i H →
    wpAny (model P w) X.A (pyNext (.ref it)) (fun r s1 => r = none ∧ Inv X pins σ H s1) E s
  self : ∀ (A : Around) (i : Nat) (s : Shared) (Q : Value → Shared → Prop) (E : Value → Shared → Prop), tn i s.heap → Q (.ref it) s → wpAny (model P w) A (pyIter (.ref it)) Q E s
/-- two lists, the first one no longer than the other -/
def Itq (K : PySem.W.Frag) (a b : Addr) : It := ⟨fun i H => ∃ (xs ys : List V) (x y : V), SqL K H a xs ∧ SqL K H b ys ∧ xs[i]? = some x ∧ ys[i]? = some y,
  fun i H v H' => ∃ T x y, v = .ref T ∧ H T = none ∧ H' = upd H T (.tup [x, y]) ∧ (∀ xs, SqL K H a xs → xs[i]? = some x) ∧ ∀ ys, SqL K H b ys → ys[i]? = some y,
  fun i H => ∃ xs : List V, SqL K H a xs ∧ xs.length ≤ i⟩
theorem turn_zipI {P : Program} {w : World} {K : PySem.W.Frag} {elts : List Expr} {kk : Nat} {tpos : Pos} {a b z TI TO i1 i2 : Addr} (D : ZipApart z TI TO i1 i2 a b) :
    TurnI P w K (.Tuple elts kk tpos) (Itq K a b) [z, TI, TO, i1, i2] z (fun i h => IsZip h z TI TO .none ∧ IsPair h TI (.ref i1) (.ref i2) ∧ (∃ x y, IsPair h TO x y) ∧ h.IsListIter i1 a i ∧ h.IsListIter i2 b i) where
  obj := fun i h st c hc => by
    obtain ⟨hz, hTI, ⟨x, y, hTO⟩, ⟨o1, e1, _, d1⟩, ⟨o2, e2, _, d2⟩⟩ := st
    rcases (by simpa using hc : c = z ∨ c = TI ∨ c = TO ∨ c = i1 ∨ c = i2) with rfl | rfl | rfl | rfl | rfl
    · exact ⟨_, hz, fun v q => nomatch q⟩
    · exact ⟨_, hTI, fun v q => nomatch q⟩
    · exact ⟨_, hTO, fun v q => nomatch q⟩
    · exact ⟨o1, e1, fun v q => by rw [d1] at q; cases q⟩
    · exact ⟨o2, e2, fun v q => by rw [d2] at q; cases q⟩
  keep := fun i h h' st k => by
    obtain ⟨hz, hTI, ⟨x, y, hTO⟩, h1, h2⟩ := st
    exact ⟨k z (by simp) _ hz, k TI (by simp) _ hTI, ⟨x, y, k TO (by simp) _ hTO⟩, h1.at fun o q => k i1 (by simp) o q, h2.at fun o q => k i2 (by simp) o q⟩
  item := by
    intro X hP hw hK hc i pins s σ H E I hf st hg
    subst hP hw hK
    obtain ⟨hz, hTI, ⟨x0, y0, hTO⟩, h1, h2⟩ := st
    obtain ⟨xs, ys, x, y, hqx, hqy, hx, hy⟩ := hg
    obtain ⟨its, rv, p, _⟩ := I.list hqx
    obtain ⟨its2, rv2, p2, _⟩ := I.list hqy
    obtain ⟨u, hu, ru⟩ := rv.get hx
    obtain ⟨u2, hu2, ru2⟩ := rv2.get hy
    have hzl : z < s.heap.objs.size := Heap.lt_size hz
    refine wpAny_pyNext_zip_item D hz hTI hTO h1 h2 p.isList p2.isList (x := u) (y := u2) (by simpa using hu) (by simpa using hu2) fun h' z' TO' h1' h2' hT hsz hk => ?_
    refine ⟨_, rfl, wpAny_letOwnedTupleGo_zip (s := { s with heap := h' }) z' fun h'' z'' sb => ?_⟩
    have hT2 : h''.get? s.heap.objs.size = some { cls := .type "tuple", data := .seq #[u, u2] } := (sb.2 _ (Nat.ne_of_gt hzl)).trans hT
    have new : ObjOk X.prog X.w (upd H s.heap.objs.size (.tup [x, y])) h'' s.heap.objs.size (.tup [x, y]) := ⟨by show 2 ≤ sizeLine; decide, [u, u2], .cons ru (.cons ru2 .nil), ⟨_, hT2, rfl, _, rfl⟩⟩
    have I1 : Inv X pins σ (upd H s.heap.objs.size (.tup [x, y])) { s with heap := h'' } := I.turnedNew (t' := s.toks) (ch := [z, TI, TO, i1, i2])
      (fun c o hb q => (sb.2 c (fun q' => hb (by simp [q']))).trans (hk c o (fun q' => hb (by simp [q'])) (fun q' => hb (by simp [q'])) (fun q' => hb (by simp [q'])) (fun q' => hb (by simp [q'])) q)) hf (Nat.le_refl _) new
    refine ⟨.ref s.heap.objs.size, _, I1, rfl, ⟨_, x, y, rfl, I.hok.fresh (Nat.le_refl _), rfl, fun l hl => by rw [I.list_inj hl hqx]; exact hx, fun l hl => by rw [I.list_inj hl hqy]; exact hy⟩,
      ⟨z'', (sb.2 _ D.TIz).trans (hk _ _ D.TIz D.TITO D.TIi1 D.TIi2 hTI), ⟨u, u2, (sb.2 _ D.TOz).trans TO'⟩, h1'.at fun o q => (sb.2 _ D.i1z).trans q, h2'.at fun o q => (sb.2 _ D.i2z).trans q⟩, fun c hcm => ?_⟩
    have hlt : c < s.heap.objs.size := by
      rcases (by simpa using hcm : c = z ∨ c = TI ∨ c = TO ∨ c = i1 ∨ c = i2) with rfl | rfl | rfl | rfl | rfl
      · exact hzl
      · exact Heap.lt_size hTI
      · exact Heap.lt_size hTO
      · obtain ⟨_, e1, _⟩ := h1; exact Heap.lt_size e1
      · obtain ⟨_, e2, _⟩ := h2; exact Heap.lt_size e2
    rw [upd_ne (Nat.ne_of_lt hlt)]
    exact (hf c hcm).1
  done := by
    intro X hP hw hK hc i pins s σ H E I hf st hg
    subst hP hw hK
    obtain ⟨hz, hTI, ⟨x0, y0, hTO⟩, h1, h2⟩ := st
    obtain ⟨xs, hqx, hend⟩ := hg
    obtain ⟨its, rv, p, _⟩ := I.list hqx
    have l1 := rv.length
    obtain ⟨x1, hot⟩ := hc _ _ _ _ I
    exact next_zip_end_hot hot D hz hTI hTO h1 p.isList (by simp; omega) fun h' hk => ⟨rfl, I.turnedL (t' := s.toks) (ch := [z, TI, TO, i1, i2])
      (fun c o hb q => hk c o (fun q' => hb (by simp [q'])) (fun q' => hb (by simp [q'])) (fun q' => hb (by simp [q'])) (fun q' => hb (by simp [q'])) q) hf⟩
  self := fun A i s Q E st h => wpAny_pyIter_zip st.1 h
def PIIE (X : Cx) (pins : List (Addr × Obj)) (σ : St) (tg : Expr) (R : It → Hp → Prop) (itv : Value) (s2 : Shared) : Prop :=
  ∃ (it : Addr) (fp : List Addr) (tn : Nat → Heap → Prop) (J : It) (H' : Hp), itv = .ref it ∧ Inv X pins σ H' s2 ∧ TurnI X.prog X.w X.K tg J fp it tn ∧ tn 0 s2.heap ∧ (∀ b ∈ fp, FpOk X pins H' b) ∧ R J H'
structure PII (X : Cx) (tg iter : Expr) (wi : TI) : Prop where
  run : ∀ (pins : List (Addr × Obj)) (s : Shared) (σ : St) (H : Hp) (R : It → Hp → Prop), Inv X pins σ H s → wi σ H R → wpAny (model X.prog X.w) X.A (eval iter X.env) (fun v s1 => wpAny (model X.prog X.w) X.A (pyIter v) (PIIE X pins σ tg R) X.xe s1) X.xe s
def iZipq (K : PySem.W.Frag) (ta : TA) : TI := fun σ H R => ta σ H fun vs H1 => ∃ a b xs ys, vs = [.ref a, .ref b] ∧ SqL K H1 a xs ∧ SqL K H1 b ys ∧ R (Itq K a b) H1
theorem pi_zipI {X : Cx} {e e2 : Expr} {ta : TA} {p pos tpos : Pos} {elts : List Expr} {kk : Nat} (hg : Gl X "zip") (hm : X.mg "zip" = none) (ha : PA X [e, e2] ta)
    (hs : starEach [e, e2] X.env = (false, eval e X.env) :: starEach [e2] X.env := by rfl) (hpl : (backTo pos (starEach [e2] X.env)).any (·.1) = false := by rfl) :
    PII X (.Tuple elts kk tpos) (.Call (.Name "zip" p) [e, e2] [] pos) (iZipq X.K ta) := by
  refine ⟨fun pins s σ H R I h => Call_ (ld_blt I hg hm PyProof.Rows.boot_zip (PyProof.Rows.callWith_type1 (thn (ha.run pos pins s σ H _ I h) fun us s1 ⟨vs, H1, I1, r1, q1⟩ => ?_) hs hpl))⟩
  obtain ⟨a, b, xs, ys, rfl, hqx, hqy, q⟩ := q1
  obtain ⟨u1, u2, rfl, ru1, ru2⟩ : ∃ u1 u2, us = [u1, u2] ∧ RelV (.ref a) u1 ∧ RelV (.ref b) u2 := by
    cases r1 with
    | cons r rr => cases rr with
      | cons r' rr => cases rr; exact ⟨_, _, rfl, r, r'⟩
  cases ru1
  cases ru2
  obtain ⟨its, rv, p1, _⟩ := I1.list hqx
  obtain ⟨its2, rv2, p2, _⟩ := I1.list hqy
  have la : a < s1.heap.objs.size := p1.lt
  have lb : b < s1.heap.objs.size := p2.lt
  refine call_zip_2 p1.isList p2.isList fun h' hz hTI hTO h1 h2 hsz hk => wpAny_pyIter_zip hz ?_
  have I2 : Inv X pins σ H1 { s1 with heap := h' } := I1.kept (t' := s1.toks) hk
  refine ⟨_, [s1.heap.objs.size + 4, s1.heap.objs.size + 2, s1.heap.objs.size + 3, s1.heap.objs.size, s1.heap.objs.size + 1], _, _, H1, rfl, I2, turn_zipI (PySem.W.ktu_apart s1.heap.objs.size a b la lb), ⟨hz, hTI, ⟨_, _, hTO⟩, h1, h2⟩, fun c hcm => ?_, q⟩
  have hle : s1.heap.objs.size ≤ c := by
    rcases (by simpa using hcm : c = s1.heap.objs.size + 4 ∨ c = s1.heap.objs.size + 2 ∨ c = s1.heap.objs.size + 3 ∨ c = s1.heap.objs.size ∨ c = s1.heap.objs.size + 1) with z | z | z | z | z <;> rw [z] <;> first | exact Nat.le_refl _ | exact Nat.le_add_right _ _
  obtain ⟨f0, f1, f2, f3, f4, f5⟩ := I1.fpOk hle (I1.hok.fresh hle)
  exact ⟨f0, f1, f2, f3, f4, f5⟩
end Mh
set_option Elab.async false
set_option linter.all false
set_option maxRecDepth 100000
set_option maxHeartbeats 4000000
/-! Nd: a list comprehension while an exception is handled. -/
namespace Mh
open PySem PySem.Spec PyProof.Rows HotX L2 L2H
theorem pg_tupI {X : Cx} {es : List Expr} {k : Nat} {pos : Pos} {t : TGs} {n : Nat} (hc : HotI X) (h : PGs X es t) (hn : (assignEach es X.env).length = n := by rfl) (hst : (assignEach es X.env).findIdx? (·.1) = none := by rfl) : PG X (.Tuple es k pos) (gTup X.K n t) := by
  refine ⟨fun pins s σ H v u Q I r ⟨a, xs, e1, hq, hl, hw⟩ => ?_⟩
  subst e1
  cases r
  obtain ⟨its, rv, ht, hz⟩ := I.tuple hq
  obtain ⟨x1, hot⟩ := hc _ _ _ _ I
  exact assign_Tuple_hot hot ht (by simp [hn, ← hl, rv.length]) hst fun h' hx => h.run pins _ σ H xs _ Q (I.kept (t' := s.toks) fun b o e => hx b o (Nat.ne_of_lt (Heap.lt_size e)) e) (by simpa using rv) hw
theorem pe_lcI {X : Cx} {elt tg iter : Expr} {ifs : List Expr} {scope : Scope} {own : List (Str × Nat)} {pos : Pos} {wi : TI} {g : TG} {tt : TT} {te : TE} (hc : HotC X) (hN : X.N.Nodup) (hi : PII X tg iter wi) (ok : BlkOk X.N X.env.scope scope own)
    (hg : ∀ (s : Shared) (H : Hp) (C : Addr) (cl : List (Str × Addr)) (fp : List Addr), HotI (X.blk s H scope (compEnvC scope cl C X.env) fp) → PG (X.blk s H scope (compEnvC scope cl C X.env) fp) tg g) (ht : ∀ (s : Shared) (H : Hp) (C : Addr) (cl : List (Str × Addr)) (fp : List Addr), PTs (X.blk s H scope (compEnvC scope cl C X.env) fp) ifs tt)
    (he : ∀ (s : Shared) (H : Hp) (C : Addr) (cl : List (Str × Addr)) (fp : List Addr), PE (X.blk s H scope (compEnvC scope cl C X.env) fp) elt te) (hs : ∀ x, foldedSetIterable iter X.env x = pure x := by intro _; rfl) :
    PE X (.ListComp elt [⟨tg, iter, ifs, 0⟩] scope pos) (tLc wi g tt te (own.map (·.2))) := by
  refine ⟨fun pins s σ H Q I h => ?_⟩
  rw [eval_ListComp]
  have hfree : ∀ y ∈ scope.names, y.2 = .free → ∃ c, X.env.cells.lookup y.1 = some c := fun y hy e => (ok.free y hy e).elim (fun k => I.ok.has _ (.inl k)) (fun k => I.ok.has _ (.inr k))
  refine wpAny_comprehension_free rfl hs (closure_ok hfree) ok.kind (fun y hy e => by rw [ok.uniq y hy, e]) (thn (hi.run pins s σ H _ I h) fun xv s1 hx => thn hx fun itv s2 ⟨it, fp, tn, J, H2, e, I2, T, st2, f2, q⟩ => ?_)
  subst e
  refine wpAny_newObj_type (newEnv_comp ?_) (by show 0 ≤ sizeLine; decide)
  obtain ⟨D, hD⟩ : ∃ D, s2.heap.objs.size = D := ⟨_, rfl⟩
  rw [hD]
  have hDn : H2 D = none := I2.hok.fresh (Nat.le_of_eq hD)
  obtain ⟨W, ⟨m0, w0⟩, turn⟩ := q D hDn
  obtain ⟨s3, hs3⟩ : ∃ s3 : Shared, ({ s2 with heap := s2.heap.push { cls := .type "list", data := .seq ([] : List Value).toArray } } : Shared) = s3 := ⟨_, rfl⟩
  have I3 : Inv X pins σ (upd H2 D (.lst [])) s3 := by
    rw [← hs3]
    refine I2.laid (t' := s2.toks) (fun b o e => Heap.get?_push_of_some _ e) (Nat.le_of_eq hD) ⟨Nat.zero_le _, [], 0, .nil, ?_⟩
    rw [← hD]; exact Heap.get?_push_size _ rfl
  have h3 : s3.heap = s2.heap.push { cls := .type "list", data := .seq ([] : List Value).toArray } := by rw [← hs3]
  have f3 : ∀ b ∈ fp, FpOk X pins (upd H2 D (.lst [])) b ∧ b < s3.heap.objs.size := fun b hb => by
    obtain ⟨o, e, _⟩ := T.obj _ _ st2 b hb
    have hlt := Heap.lt_size e
    refine ⟨⟨?_, (f2 b hb).2⟩, by rw [h3, Heap.size_push]; exact Nat.lt_succ_of_lt hlt⟩
    rw [upd_ne (by rw [← hD]; exact Nat.ne_of_lt hlt)]; exact (f2 b hb).1
  have st3 : tn 0 s3.heap := T.keep _ _ _ st2 fun b _ o e => by rw [h3]; exact Heap.get?_push_of_some _ e
  have I4 := block_start I3 ok hN f3
  have hot4 := fun e => HotI.blk (scope := scope) (e := e) hc I3 fun b hb => (f3 b hb).1
  have pg := hg s3 (upd H2 D (.lst [])) s3.heap.objs.size (cellsFrom (s3.heap.objs.size + 1) scope.names (cloFrom X.env.cells scope.names [])) fp (hot4 _)
  have pt := ht s3 (upd H2 D (.lst [])) s3.heap.objs.size (cellsFrom (s3.heap.objs.size + 1) scope.names (cloFrom X.env.cells scope.names [])) fp
  have pe := he s3 (upd H2 D (.lst [])) s3.heap.objs.size (cellsFrom (s3.heap.objs.size + 1) scope.names (cloFrom X.env.cells scope.names [])) fp
  have hot5 := hot4 (compEnvC scope (cellsFrom (s3.heap.objs.size + 1) scope.names (cloFrom X.env.cells scope.names [])) s3.heap.objs.size X.env)
  rw [hs3]
  show codeAny _ _ (.compStart (.ListComp elt [⟨tg, iter, ifs, 0⟩] scope pos) 0 (.ref it) (.ref D) (compEnvC scope (cellsFrom (s3.heap.objs.size + 1) scope.names (cloFrom X.env.cells scope.names [])) s3.heap.objs.size X.env)) (compPost (model X.prog X.w) X.A X.xe _ (EP X pins σ Q) (.ref D) s3.heap.objs.size) { s3 with heap := pushCells (s3.heap.push { cls := .type "dict", data := .dict #[] }) scope.names }
  have nfp : ∀ b ∈ fp, (upd H2 D (.lst [])) b = none := fun b hb => (f3 b hb).1.1
  obtain ⟨ce, hce⟩ : ∃ ce, compEnvC scope (cellsFrom (s3.heap.objs.size + 1) scope.names (cloFrom X.env.cells scope.names [])) s3.heap.objs.size X.env = ce := ⟨_, rfl⟩
  rw [hce] at I4 pg pt pe hot5 ⊢
  have cL : ce.locals = s3.heap.objs.size := by subst hce; rfl
  obtain ⟨H3, hH3⟩ : ∃ H3, upd H2 D (.lst []) = H3 := ⟨_, rfl⟩
  rw [hH3] at I3 I4 pg pt pe w0 nfp f3 hot5
  obtain ⟨s4, hs4⟩ : ∃ s4 : Shared, ({ s3 with heap := pushCells (s3.heap.push { cls := .type "dict", data := .dict #[] }) scope.names } : Shared) = s4 := ⟨_, rfl⟩
  rw [hs4] at I4 ⊢
  have st4 : tn 0 s4.heap := T.keep _ _ _ st3 fun b _ o e => by rw [← hs4]; exact pushCells_keeps _ _ _ _ (Heap.get?_push_of_some _ e)
  have stat : ∀ {σ' : St} {H' : Hp} {s' : Shared}, Inv (X.blk s3 H3 scope ce fp) [] σ' H' s' → (∀ b ∈ fp, H' b = none) → ∀ b ∈ fp, FpOk (X.blk s3 H3 scope ce fp) [] H' b := fun {σ' H' s'} I' hn b hb =>
    ⟨hn b hb, (I'.ok.exf b hb).1, I'.ok.exfs b hb, .inl hb, fun x c e => (I'.ok.exf b hb).2 x c e, fun p hp => absurd (show p ∈ ([] : List (Addr × Obj)) ++ [] from hp) (by simp)⟩
  suffices loop : codeAny (model X.prog X.w) X.A (.compLoop (.ListComp elt [⟨tg, iter, ifs, 0⟩] scope pos) 0 (.ref it) (.ref D) ce) (compPost (model X.prog X.w) X.A X.xe none (EP X pins σ Q) (.ref D) s3.heap.objs.size) s4 from codeAny_compStart_list loop (T.self X.A 0 _ _ _ st4 loop)
  refine compLoop_any (fun n s' => ∃ i H', Inv (X.blk s3 H3 scope ce fp) [] (wipe σ (own.map (·.2))) H' s' ∧ tn i s'.heap ∧ (∀ b ∈ fp, H' b = none) ∧ W i n H') ?_ m0 ⟨0, H3, I4, st4, nfp, w0⟩
  rintro n s5 ⟨i, H5, I5, st5, n5, w5⟩
  rcases turn i n H5 w5 with ⟨stop, qq⟩ | ⟨go, Nx, hNx, step⟩
  · refine thnF (T.done (X.blk s3 H3 scope ce fp) rfl rfl rfl hot5 i [] s5 _ H5 (fun _ _ => False) I5 (stat I5 n5) st5 stop) fun r s6 ⟨hr, I6⟩ => ?_
    subst hr
    have I7 : Inv X pins σ H5 s6 := I3.call' (ch := fp) I6.os I6.base I6.hok I6.bare fun b hb => ⟨(f3 b hb).1.2.2.2.1, (f3 b hb).1.2.1, (f3 b hb).1.2.2.2.2.1, (f3 b hb).1.2.2.2.2.2⟩
    have nC : H5 s3.heap.objs.size = none := by have z : H5 ce.locals = none := I6.free; rw [cL] at z; exact z
    obtain ⟨m, hn, _⟩ := I6.loc
    have hn : s6.heap.Ns ce.locals m := hn
    rw [cL] at hn
    refine ⟨m, hn, fun h'' sb => ?_⟩
    obtain ⟨f0, f1, f2, f3, f4, f5⟩ := I3.fpOk (Nat.le_refl _) nC
    exact ⟨.ref D, H5, I7.turned (t' := s6.toks) (fun b o hb e => (sb.2 b hb).trans e) f0 f1 f3 f4 f5, rfl, qq⟩
  · refine thnF (T.item (X.blk s3 H3 scope ce fp) rfl rfl rfl hot5 i [] s5 _ H5 (fun _ _ => False) I5 (stat I5 n5) st5 go) fun r s6 ⟨u, hr, h6⟩ => ?_
    subst hr
    refine thnF h6 fun _ s7 ⟨x, H7, I7, r7, y7, st7, n7⟩ => ?_
    have I7' := I7.pinned (stat I7 n7) (T.obj _ _ st7)
    refine thnF (pg.run _ s7 _ H7 x u _ I7' r7 (step x H7 y7)) fun _ s8 ⟨σ8, H8, I8, hw8, q8⟩ => thnF (pt.run _ s8 σ8 H8 _ I8 q8) fun b s9 ⟨H9, I9, q9⟩ => ?_
    have fin : ∀ {s' : Shared} {H' : Hp}, Inv (X.blk s3 H3 scope ce fp) ([] ++ pinsAt fp s7.heap) σ8 H' s' → Nx H' → ∃ m, m < n ∧ ∃ i H', Inv (X.blk s3 H3 scope ce fp) [] (wipe σ (own.map (·.2))) H' s' ∧ tn i s'.heap ∧ (∀ b ∈ fp, H' b = none) ∧ W i m H' := fun {s' H'} I' nx => by
      obtain ⟨m', hm, w'⟩ := hNx H' nx
      have pin' : ∀ b ∈ fp, ∀ o, s7.heap.get? b = some o → s'.heap.get? b = some o ∧ H' b = none := fun b hb o e => have z := I'.pin (b, o) (List.mem_append_right _ (List.mem_append_right _ (mem_pinsAt hb e))); ⟨z.1, z.2.1⟩
      refine ⟨m', hm, i + 1, H', (I'.unpinned (pins := [])).weak (by rw [← hw8, wipe_length]) (fun j v e => ?_), T.keep _ _ _ st7 fun b hb o e => (pin' b hb o e).1, fun b hb => ?_, w'⟩
      · rw [← hw8] at e; exact (wipe_some e).1
      · obtain ⟨o, e, _⟩ := T.obj _ _ st7 b hb; exact (pin' b hb o e).2
    cases b with
    | false => simp only [Bool.false_eq_true, if_false] at q9 ⊢; exact fin I9 q9
    | true =>
      simp only [if_true] at q9 ⊢
      exact thnF (pe.run _ s9 σ8 H9 _ I9 q9) fun z s10 ⟨yv, H10, I10, r10, acc, hD10, hz10, nx⟩ => app_ok (X := X.blk s3 H3 scope ce fp) I10 hD10 hz10 r10 fun s11 I11 => fin I11 nx
end Mh
set_option Elab.async false
set_option linter.all false
set_option maxRecDepth 100000
set_option maxHeartbeats 4000000
/-! Ne: the def that names an exception that is handled. -/
namespace Mh
open PySem PySem.Spec PyProof.Rows HotX L2 L2H
/-- the names that such a def uses -/
def NN : List Str := ["e", "some", "labels", "word", "good"]
/-- isinstance(e, c), c by c -/
def isOf : List Expr → Option (List Str)
  | [] => some []
  | .Call (.Name f _) [.Name e _, .Name c _] [] _ :: es => if f = "isinstance" ∧ e = "e" then (isOf es).map (c :: ·) else none
  | _ => none
def namesOf (sc : Scope) : List Stmt → Option (Str × List Str)
  | [.Assign [.Name s1 _] (.List es _) _, .Assign [.Name s2 _] (.Constant (.str L) _ _) _,
      .Return (some (.Call (.Attribute (.Constant (.str J) _ _) m1 ap) [.ListComp (.Name w1 _) [⟨.Tuple [.Name w2 _, .Name g2 _] _ _, .Call (.Name z _) [.Call (.Attribute (.Name s3 _) m2 ap2) [.Constant (.str S) _ _] [] cp2, .Name s4 _] [] _, [.Name g3 _], 0⟩] sc2 _] [] cp)) _] =>
    if (s1 = "some" ∧ s2 = "labels" ∧ s3 = "labels" ∧ s4 = "some" ∧ w1 = "word" ∧ w2 = "word" ∧ g2 = "good" ∧ g3 = "good" ∧ z = "zip" ∧ m1 = "join" ∧ m2 = "split" ∧ J = " " ∧ S = " ") ∧
      (ap2.endLine == cp2.line) = true ∧ (ap.endLine == cp.line) = true ∧ blkC NN sc sc2 [("word", 3), ("good", 4)] = true ∧ Mi.locB sc "some" = true ∧ Mi.locB sc "labels" = true ∧ Mi.locB sc "e" = true ∧ Mi.locB sc2 "word" = true ∧ Mi.locB sc2 "good" = true ∧ Mi.glB sc "zip" = true ∧ Mi.glB sc "isinstance" = true
    then (isOf es).map (L, ·) else none
  | _ => none
def nameRes (L : Str) (fl : List Bool) : Str := Txt.join " " (((Txt.split L " ").zip fl).filterMap fun p => if p.2 = true then some p.1 else none)
/-- what the class named c says of D's instances -/
def ClsIs (X : Cx) (D : Addr) (c : Str) (b : Bool) : Prop := Gl X c ∧ (c == ("__debug__" : Str)) = false ∧
  ((∃ C, X.mg c = some (.ref C) ∧ PySem.W.kitOne X.K (.ref D) (.ref C) = some b) ∨ (X.mg c = none ∧ ∃ n, bootBuiltins c = some (.type n) ∧ c ≠ "__name__" ∧ PySem.W.kitOne X.K (.ref D) (.type n) = some b))
section
variable {X : Cx} {a D : Addr} {oe : Obj}
theorem call_isP (C : ExcC X.K D) (hp : (a, oe) ∈ X.pn) (hz : Zc (.ref D) none oe) (hf : ∃ vs, oe.data = .fields vs) : CallR X (.builtin "isinstance") (rIsE X.K D a) := by
  intro pins s σ H xs us Q I r h
  obtain ⟨c, cv, b, rfl, hcv, e, q⟩ := h
  obtain ⟨u1, u2, rfl, r1, r2⟩ : ∃ u1 u2, us = [u1, u2] ∧ RelV (.ref a) u1 ∧ RelV c u2 := by
    cases r with
    | cons rx rr => cases rr with
      | cons rt rr => cases rr; exact ⟨_, _, rfl, rx, rt⟩
  cases r1
  have ec := hcv _ r2
  subst ec
  obtain ⟨hget, _⟩ := I.pin (a, oe) (List.mem_append_left _ hp)
  obtain ⟨vs, hv⟩ := hf
  have J : PySem.W.InstAt s.heap a oe D none := by
    obtain ⟨oc, od, oda, osl⟩ := oe
    obtain ⟨h1, h2⟩ := hz
    dsimp only at h1 h2 hv
    subst h1 h2 hv
    exact ⟨hget, rfl, rfl, trivial⟩
  exact PySem.W.kia_one (PySem.W.handS_kitx_exc C.hg C.hk C.hs C.hd C.ha C.hn C.ht C.hm) I.kIn J e (fun z => nomatch z) fun tk => ⟨.bl b, H, I.kept (t' := tk) fun _ _ z => z, rfl, q⟩
theorem pe_is {c : Str} {b : Bool} {p1 p2 p3 p4 : Pos} (C : ExcC X.K D) (hp : (a, oe) ∈ X.pn) (hz : Zc (.ref D) none oe) (hf : ∃ vs, oe.data = .fields vs) (hN : X.N[0]? = some ("e" : Str)) (hv : Vis X.env.scope "e") (hg : Gl X "isinstance") (hm : X.mg "isinstance" = none) (k : ClsIs X D c b) :
    PE X (.Call (.Name "isinstance" p1) [.Name "e" p2, .Name c p3] [] p4) (fun σ H Q => σ[0]? = some (some (.ref a)) ∧ Q (.bl b) H) := by
  have pv : PE X (.Name "e" p2) (tVar 0) := pe_var hN hv
  obtain ⟨g, d, ⟨Cc, m, kk⟩ | ⟨m, n, bo, nn, kk⟩⟩ := k
  · have pc : PE X (.Name c p3) (tC (.ref Cc)) := pe_glob (v := .ref Cc) g m rfl d
    exact Mi.PE.imp (pe_callB (call_isP C hp hz hf) hg hm (by decide +kernel) (pa_cons pv (pa_cons pc pa_nil))) fun σ H Q ⟨h1, h2⟩ => ⟨_, h1, .ref Cc, .ref Cc, b, rfl, fun u r => r, kk, h2⟩
  · have pc : PE X (.Name c p3) (tC (.ty n)) := pe_bltn (v := .ty n) g m bo rfl nn d
    exact Mi.PE.imp (pe_callB (call_isP C hp hz hf) hg hm (by decide +kernel) (pa_cons pv (pa_cons pc pa_nil))) fun σ H Q ⟨h1, h2⟩ => ⟨_, h1, .ty n, .type n, b, rfl, fun u r => r, kk, h2⟩
theorem pa_is (C : ExcC X.K D) (hp : (a, oe) ∈ X.pn) (hz : Zc (.ref D) none oe) (hf : ∃ vs, oe.data = .fields vs) (hN : X.N[0]? = some ("e" : Str)) (hv : Vis X.env.scope "e") (hg : Gl X "isinstance") (hm : X.mg "isinstance" = none) :
    ∀ {es : List Expr} {cs : List Str} {fl : List Bool}, isOf es = some cs → Paired (ClsIs X D) cs fl → PA X es (fun σ H Q => σ[0]? = some (some (.ref a)) ∧ Q (fl.map V.bl) H) := by
  intro es
  induction es with
  | nil =>
    intro cs fl h k
    simp only [isOf, Option.some.injEq] at h
    subst h
    cases k
    exact Mi.PA.imp pa_nil fun σ H Q h => h.2
  | cons e es ih =>
    intro cs fl h k
    unfold isOf at h
    split at h
    · rename_i z
      cases z
    · rename_i e1
      cases e1
      split at h
      · rename_i hq
        obtain ⟨rfl, rfl⟩ := hq
        simp only [Option.map_eq_some_iff] at h
        obtain ⟨cs', h1, rfl⟩ := h
        cases k with
        | cons k1 k2 =>
          exact Mi.PA.imp (pa_cons (pe_is C hp hz hf hN hv hg hm k1) (ih h1 k2)) fun σ H Q h => ⟨h.1, h.1, h.2⟩
      · cases h
    · cases h
theorem filt_get {L : List Str} {fl : List Bool} {i : Nat} {w : Str} {b : Bool} (hw : L[i]? = some w) (hb : fl[i]? = some b) : ((L.zip fl).take (i + 1)).filterMap (fun p => if p.2 = true then some p.1 else none) = ((L.zip fl).take i).filterMap (fun p => if p.2 = true then some p.1 else none) ++ (if b = true then [w] else []) := by
  have h : (L.zip fl)[i]? = some (w, b) := by rw [List.getElem?_zip_eq_some]; exact ⟨hw, hb⟩
  rw [List.take_add_one, List.filterMap_append, h]
  cases b <;> simp
theorem filt_sub {L : List Str} {fl : List Bool} : List.Sublist ((L.zip fl).filterMap (fun p => if p.2 = true then some p.1 else none)) L := by
  induction L generalizing fl with
  | nil => simp
  | cons x L ih =>
    cases fl with
    | nil => simp
    | cons b fl =>
      rw [List.zip_cons_cons]
      cases b with
      | true => rw [List.filterMap_cons_some (b := x) (by simp)]; exact (ih (fl := fl)).cons_cons x
      | false => rw [List.filterMap_cons_none (by simp)]; exact (ih (fl := fl)).cons x
theorem sum_sub {l m : List Str} (h : List.Sublist l m) : (l.map (·.length)).sum + l.length * (" " : Str).length ≤ (m.map (·.length)).sum + m.length * (" " : Str).length := by
  induction h with
  | slnil => exact Nat.le_refl _
  | cons x h ih => simp only [List.map_cons, List.sum_cons, List.length_cons, Nat.succ_mul]; omega
  | cons_cons x h ih => simp only [List.map_cons, List.sum_cons, List.length_cons, Nat.succ_mul]; omega
theorem names_ps (hot : HotC X) (C : ExcC X.K D) (hp : (a, oe) ∈ X.pn) (hz : Zc (.ref D) none oe) (hf : ∃ vs, oe.data = .fields vs) (hN : X.N = NN) {sc : Scope} (hsc : X.env.scope = sc) (hfn : ∀ y, X.fn y = true) (hm : X.mg "isinstance" = none) (hm2 : X.mg "zip" = none)
    {body : List Stmt} {L : Str} {cs : List Str} {fl : List Bool} (h : namesOf sc body = some (L, cs)) (k : Paired (ClsIs X D) cs fl) (hl : (Txt.split L " ").length ≤ fl.length) (hf2 : fl.length ≤ sizeLine) (hz1 : L.length + 2 ≤ sizeLine) (hz2 : ((Txt.split L " ").map (·.length)).sum + (Txt.split L " ").length * (" " : Str).length ≤ 16777216) :
    PSs X body (fun D σ H => σ.length = 5 ∧ σ[0]? = some (some (.ref a)) ∧ ∀ H', (∀ b o, H b = some o → H' b = some o) → D.rt (.str (nameRes L fl)) H') := by
  have nd : X.N.Nodup := by rw [hN]; decide +kernel
  unfold namesOf at h
  split at h
  · rename_i s1 _ es _ _ s2 _ L' _ _ _ J _ _ m1 ap w1 _ w2 _ g2 _ _ _ z _ s3 _ m2 ap2 S _ _ cp2 s4 _ _ g3 _ sc2 _ cp _
    split at h
    · rename_i hq
      obtain ⟨⟨rfl, rfl, rfl, rfl, rfl, rfl, rfl, rfl, rfl, rfl, rfl, rfl, rfl⟩, l1, l2, hb, c1, c2, c3, c4, c5, c6, c7⟩ := hq
      simp only [Option.map_eq_some_iff] at h
      obtain ⟨cs', h1, e⟩ := h
      cases e
      have gl : ∀ {x : Str}, Mi.glB sc x = true → Gl X x := fun {x} h => by
        have := (Mi.gl_of h).1
        rw [← hsc] at this; exact this
      have vis : ∀ {x : Str}, Mi.locB sc x = true → Vis X.env.scope x := fun {x} h => by
        rw [hsc]; exact (Mi.loc_of h).elim (fun k => .inl k) (fun k => .inr (.inl k))
      have loc : ∀ {x : Str}, Mi.locB sc x = true → Loc X.env.scope x := fun {x} h => by rw [hsc]; exact Mi.loc_of h
      have ok : BlkOk X.N X.env.scope sc2 [("word", 3), ("good", 4)] := by rw [hN, hsc]; exact blkOk_by hb
      have pv2 : ∀ {p : Pos}, PE X (.Name "labels" p) (tVar 2) := fun {p} => pe_var (by rw [hN]; rfl) (vis c2)
      have pv1 : ∀ {p : Pos}, PE X (.Name "some" p) (tVar 1) := fun {p} => pe_var (by rw [hN]; rfl) (vis c1)
      have hotb := fun (s : Shared) (H : Hp) (C : Addr) (cl : List (Str × Addr)) (fp : List Addr) => Mi.locOk_blk (X := X) (scope := sc2) (s := s) (H := H) (cl := cl) (a := C) (fp := fp)
      refine Mi.PSs.imp (pss_cons (ps_set (i := 1) nd (by rw [hN]; rfl) (loc c1) (pe_lst (pa_is C hp hz hf (by rw [hN]; rfl) (vis c3) (gl c7) hm h1 k)) rfl (.inl (hfn _))) (pss_cons (ps_set (i := 2) nd (by rw [hN]; rfl) (loc c2) pe_str rfl (.inl (hfn _)))
        (pss_one (ps_ret (pe_m1 F.slot_str_join F.type_str_join mt_join pe_str (pe_lcI (g := gTup X.K 2 (gCons (gName 3) (gCons (gName 4) gNil))) hot nd (pi_zipI (gl c6) hm2 (pa_cons (pe_split pv2 pe_str rfl rfl l1) (pa_cons pv1 pa_nil))) ok
          (fun s H Ca cl fp hI => pg_tupI (n := 2) hI (pgs_cons (pg_name (i := 3) nd (by rw [hN]; rfl) (hotb s H Ca cl fp _ c4).1 (hotb s H Ca cl fp _ c4).2) (pgs_cons (pg_name (i := 4) nd (by rw [hN]; rfl) (hotb s H Ca cl fp _ c5).1 (hotb s H Ca cl fp _ c5).2) pgs_nil)))
          (fun s H Ca cl fp => pts_one (pt_val (pe_var (i := 4) (by show X.N[4]? = _; rw [hN]; rfl) ((hotb s H Ca cl fp _ c5).1.elim (fun k => .inl k) (fun k => .inr (.inl k))))))
          (fun s H Ca cl fp => pe_var (i := 3) (by show X.N[3]? = _; rw [hN]; rfl) ((hotb s H Ca cl fp _ c4).1.elim (fun k => .inl k) (fun k => .inr (.inl k))))) rfl rfl l2))))) fun D σ H ⟨e1, e2, e3⟩ => ?_
      refine ⟨e2, by rw [List.length_map]; exact hf2, fun pS nS => ?_⟩
      have g2 : ((σ.set 1 (some (V.ref pS))).set 2 (some (.str L)))[2]? = some (some (.str L)) := by rw [List.getElem?_set_self (by simp [e1])]
      have g1 : ((σ.set 1 (some (V.ref pS))).set 2 (some (.str L)))[1]? = some (some (.ref pS)) := by rw [List.getElem?_set_ne (by decide), List.getElem?_set_self (by simp [e1])]
      refine ⟨⟨" ", rfl⟩, ⟨.str L, g2, ⟨L, rfl⟩, L, " ", rfl, rfl, by decide +kernel, hz1, fun pL nL => ⟨.ref pS, g1, pL, pS, (Txt.split L " ").map V.str, fl.map V.bl, rfl, .inl (.inl upd_same), ?_⟩⟩⟩
      have nLS : pS ≠ pL := fun e => by rw [e] at nL; rw [← e, upd_same] at nL; cases nL
      refine ⟨.inl (.inl (by rw [upd_ne nLS, upd_same])), fun Dd nD => ?_⟩
      obtain ⟨Hx, hHx⟩ : ∃ Hx, upd (upd H pS (.lst (fl.map V.bl))) pL (.lst ((Txt.split L " ").map V.str)) = Hx := ⟨_, rfl⟩
      have xL : Hx pL = some (.lst ((Txt.split L " ").map V.str)) := by rw [← hHx, upd_same]
      have xS : Hx pS = some (.lst (fl.map V.bl)) := by rw [← hHx, upd_ne nLS, upd_same]
      have xH : ∀ b o, H b = some o → Hx b = some o := fun b o h => by
        rw [← hHx, upd_ne (fun z => ?_), upd_ne (fun z => by rw [z, nS] at h; cases h)]
        · exact h
        · rw [z] at h; rw [upd_ne (fun z => by rw [z, nS] at h; cases h)] at nL; rw [nL] at h; cases h
      rw [hHx] at nD ⊢
      have nDL : pL ≠ Dd := fun e => by rw [← e, xL] at nD; cases nD
      have nDS : pS ≠ Dd := fun e => by rw [← e, xS] at nD; cases nD
      let acc := fun i => ((((Txt.split L " ").zip fl).take i).filterMap (fun p => if p.2 = true then some p.1 else none)).map V.str
      refine ⟨fun i m H' => i + m = (Txt.split L " ").length ∧ H' Dd = some (.lst (acc i)) ∧ (∀ b o, Hx b = some o → H' b = some o), ⟨(Txt.split L " ").length, by omega, upd_same, fun b o h => by rw [upd_ne (fun z => by rw [z, nD] at h; cases h)]; exact h⟩, ?_⟩
      rintro i m H' ⟨w1, w2, w3⟩
      have yL : SqL X.K H' pL ((Txt.split L " ").map V.str) := .inl (.inl (w3 _ _ xL))
      have yS : SqL X.K H' pS (fl.map V.bl) := .inl (.inl (w3 _ _ xS))
      by_cases hi : i < (Txt.split L " ").length
      · refine .inr ⟨⟨_, _, _, _, yL, yS, by rw [List.getElem?_map, List.getElem?_eq_getElem hi]; rfl, by rw [List.getElem?_map, List.getElem?_eq_getElem (Nat.lt_of_lt_of_le hi hl)]; rfl⟩, fun H2 => (i + 1) + (m - 1) = (Txt.split L " ").length ∧ H2 Dd = some (.lst (acc (i + 1))) ∧ (∀ b o, Hx b = some o → H2 b = some o), fun H2 h => ⟨m - 1, by omega, h⟩, ?_⟩
        rintro x H2 ⟨Tp, u, v, rfl, nT, rfl, q1, q2⟩
        have q1 := q1 _ yL
        have q2 := q2 _ yS
        rw [List.getElem?_map, List.getElem?_eq_getElem hi] at q1
        rw [List.getElem?_map, List.getElem?_eq_getElem (Nat.lt_of_lt_of_le hi hl)] at q2
        cases q1
        cases q2
        have nDT : Dd ≠ Tp := fun e => by rw [← e, w2] at nT; cases nT
        refine ⟨Tp, _, rfl, .inl (.inl upd_same), rfl, _, _, rfl, _, _, rfl, rfl, ?_⟩
        have sl : (((σ.set 1 (some (V.ref pS))).set 2 (some (.str L)))).length = 5 := by simp [e1]
        obtain ⟨σ2, hσ2⟩ : ∃ σ2, ((σ.set 1 (some (V.ref pS))).set 2 (some (.str L))) = σ2 := ⟨_, rfl⟩
        rw [hσ2] at sl ⊢
        match σ2, sl with
        | [x0, x1, x2, x3, x4], _ =>
          have w4 : upd H' Tp (.tup [.str (Txt.split L " ")[i], .bl (fl[i]'(Nat.lt_of_lt_of_le hi hl))]) Dd = some (.lst (acc i)) := by rw [upd_ne nDT]; exact w2
          have w5 : ∀ b o, Hx b = some o → upd H' Tp (.tup [.str (Txt.split L " ")[i], .bl (fl[i]'(Nat.lt_of_lt_of_le hi hl))]) b = some o := fun b o h => by
            rw [upd_ne (fun z => by rw [← z, w3 _ _ h] at nT; cases nT)]; exact w3 _ _ h
          have ac : acc (i + 1) = acc i ++ (if (fl[i]'(Nat.lt_of_lt_of_le hi hl)) = true then [V.str (Txt.split L " ")[i]] else []) := by
            show List.map _ _ = _
            rw [filt_get (List.getElem?_eq_getElem hi) (List.getElem?_eq_getElem (Nat.lt_of_lt_of_le hi hl)), List.map_append]
            cases (fl[i]'(Nat.lt_of_lt_of_le hi hl)) <;> rfl
          refine ⟨rfl, .bl _, rfl, _, rfl, ?_⟩
          cases hb : (fl[i]'(Nat.lt_of_lt_of_le hi hl)) with
          | true =>
            rw [hb] at ac w4 w5
            refine (if_pos rfl).mpr ⟨_, rfl, acc i, w4, ?_, by omega, ?_, fun b o h => ?_⟩
            · show (List.map _ _).length < _
              rw [List.length_map]
              have := Nat.le_trans (List.length_filterMap_le (fun p : Str × Bool => if p.2 = true then some p.1 else none) (((Txt.split L " ").zip fl).take i)) (List.length_take_le i _)
              exact Nat.lt_of_le_of_lt this (Nat.lt_of_lt_of_le hi (Nat.le_trans hl hf2))
            · rw [upd_same, ac]; rfl
            · rw [upd_ne (fun z => by rw [z, nD] at h; cases h)]; exact w5 _ _ h
          | false =>
            rw [hb] at ac w4 w5
            exact (if_neg Bool.false_ne_true).mpr ⟨by omega, by rw [ac]; simpa using w4, w5⟩
      · have hi2 : (Txt.split L " ").length ≤ i := by omega
        refine .inl ⟨⟨_, yL, by rw [List.length_map]; exact hi2⟩, " ", Dd, ((Txt.split L " ").zip fl).filterMap (fun p => if p.2 = true then some p.1 else none), rfl, rfl, .inl (.inl (.inl ?_)), Nat.le_trans (sum_sub filt_sub) hz2, ?_⟩
        · rw [w2]
          show some (HO.lst (List.map _ _)) = _
          rw [List.take_of_length_le (by rw [List.length_zip]; omega)]
        · exact e3 _ fun b o h => w3 _ _ (xH _ _ h)
    · cases h
  · cases h
end
end Mh
set_option Elab.async false
set_option linter.all false
set_option maxRecDepth 100000
set_option maxHeartbeats 4000000
/-! Nf: what an exception of a lambda's body is called. -/
namespace Mh
open PySem PySem.Spec PyProof.Rows HotX L2 L2H LamX
def eL : List Str := ["e"]
/-- what the class named c says of D's instances, by the globals -/
def ClsK (K : PySem.W.Frag) (mg : Str → Option Value) (D : Addr) (c : Str) (b : Bool) : Prop :=
  (∃ C, mg c = some (.ref C) ∧ PySem.W.kitOne K (.ref D) (.ref C) = some b) ∨ (mg c = none ∧ ∃ n, bootBuiltins c = some (.type n) ∧ c ≠ "__name__" ∧ PySem.W.kitOne K (.ref D) (.type n) = some b)
/-- the def that names the exception of class D by the text lbl -/
structure NamD (K : PySem.W.Frag) (mg : Str → Option Value) (x qual : Str) (params : Arguments) (body : List Stmt) (scope : Scope) (f : Addr) (fd : FuncData) (L : Str) (cs : List Str) : Prop where
  fn : FunD K x qual params body scope [] [] f fd
  sc : FnScope NN eL scope
  bd : namesOf scope body = some (L, cs)
  gl : cs.all (Mi.glB scope) = true
  z1 : L.length + 2 ≤ sizeLine
  z2 : ((Txt.split L " ").map (·.length)).sum + (Txt.split L " ").length * (" " : Str).length ≤ 16777216
  m1 : mg "isinstance" = none
  m2 : mg "zip" = none
  bi : L2.Binds K fd eL []
  gx : mg x = some (.ref f)
/-- the exception class D is named lbl -/
structure LblD (K : PySem.W.Frag) (mg : Str → Option Value) (L : Str) (cs : List Str) (D : Addr) (lbl : Str) : Prop where
  ex : ExcC K D
  fl : ∃ fl : List Bool, Paired (ClsK K mg D) cs fl ∧ (Txt.split L " ").length ≤ fl.length ∧ fl.length ≤ sizeLine ∧ nameRes L fl = lbl
theorem paired_glob {X : Cx} {D : Addr} {cs : List Str} {fl : List Bool} (hg : cs.all (Mi.glB X.env.scope) = true) (hp : Paired (ClsK X.K X.mg D) cs fl) : Paired (ClsIs X D) cs fl := by
  induction hp with
  | nil => exact .nil
  | cons h _ ih =>
    simp only [List.all_cons, Bool.and_eq_true] at hg
    exact .cons ⟨(Mi.gl_of hg.1).1, (Mi.gl_of hg.1).2.1, h⟩ (ih hg.2)
theorem names_run {P : Program} {w : World} {K : PySem.W.Frag} {mg : Str → Option Value} {base : Heap} {x qual : Str} {params : Arguments} {body : List Stmt} {scope : Scope} {f : Addr} {fd : FuncData} {L : Str} {cs : List Str} {k : Nat} (N : NamD K mg x qual params body scope f fd L cs) {D : Addr} {lbl : Str} (l : LblD K mg L cs D lbl)
    {A : Around} {outer : List Env} {s : Shared} {H : Hp} {args : Args} {Q : VK} {a : Addr} {oe : Obj} (hr : RoomH (k + 1) A) (hot : Hot1 A (a, oe)) (hpin : PinOk outer H s (a, oe)) (hz : Zc (.ref D) none oe) (e0 : Env0 P w K mg base A outer s H) (hb : BindsTo s fd args (eL.zip [Value.ref a]))
    (h : ∀ H', (∀ b o, H b = some o → H' b = some o) → Q (.str lbl) H') : codeAny (model P w) A (.call (.ref f) args) (CR C8.CX0 outer P w H s Q C8.E0) s := by
  obtain ⟨oc, od, dV, kV, doc, pm, an, cdv, ct, osl, rfl, lk, hcd, _, _⟩ := N.fn.ex
  have S := N.sc
  have KX : K.In s.heap := e0.mod.kin.keeps fun b o e => (e0.bs b o e).1
  have lim : s.heap.NoLimit := e0.mod.nolimit.keeps fun b o e => (e0.bs b o e).1
  have hkind : ∀ y ∈ eL.zip [Value.ref a], scope.names.lookup y.1 = some .local ∨ (scope.names.lookup y.1 = some .cell ∧ ((cellsFrom (s.heap.objs.size + 1) scope.names []).lookup y.1).isSome = true) := fun ⟨n, v⟩ hy => by
    rcases S.par n (List.of_mem_zip hy).1 with q | q
    · exact .inl q
    · exact .inr ⟨q, PySem.W.cellsFrom_some _ _ _ (.inl q)⟩
  refine codeAny_call_function hr.depth (KX _ _ lk) rfl S.co S.gen rfl (PySem.W.codeRec_of KX hcd) (hb _ _ _ _ (wpAny_newFunctionEnv_cells S.kind hkind fun env he s1 x => ?_))
  subst he
  refine ⟨lim.keeps x.toInCall.keep, codeAny_func ?_⟩
  obtain ⟨vs, hv, hn⟩ := hot.2
  obtain ⟨fl, hp, h1, h2, rfl⟩ := l.fl
  have I : Inv (cxH C8.CX0 P w K mg base NN qual scope f cdv A outer s H C8.E0 (a, oe)) [] (L2.start NN [.ref a]) H s1 := inv_startH S hpin e0 rfl (.cons rfl .nil) x
  have hp' : Paired (ClsIs (cxH C8.CX0 P w K mg base NN qual scope f cdv A outer s H C8.E0 (a, oe)) D) cs fl := paired_glob N.gl hp
  have ht := names_ps (X := cxH C8.CX0 P w K mg base NN qual scope f cdv A outer s H C8.E0 (a, oe)) (oe := oe) (a := a) ⟨(a, oe), hot, by show (a, oe) ∈ [(a, oe)]; simp⟩ l.ex (by show (a, oe) ∈ [(a, oe)]; simp) hz ⟨vs, hv⟩ rfl rfl (fun _ => rfl) N.m1 N.m2 N.bd hp' h1 h2 N.z1 N.z2
  refine wpAny_mono (ht.run [] s1 (L2.start NN [.ref a]) H { nx := fun _ H' => Q .non H', rt := Q, bk := fun _ _ => False, ct := fun _ _ => False } I ⟨rfl, rfl, h⟩) (fun fl s' hs => ?_) fun e s' hs => hs
  cases fl with
  | ret u =>
    obtain ⟨v, σ', H', J, rv, q⟩ := hs
    exact ⟨v, H', J.os, J.bare, J.base, J.hok, rv, q⟩
  | next =>
    obtain ⟨σ', H', J, q⟩ := hs
    exact ⟨.non, H', J.os, J.bare, J.base, J.hok, rfl, q⟩
  | brk => obtain ⟨_, _, _, q⟩ := hs; exact False.elim q
  | cont => obtain ⟨_, _, _, q⟩ := hs; exact False.elim q
/-- names(e) in an except suite -/
theorem pe_namesS {X : Cx} {x qual : Str} {params : Arguments} {body : List Stmt} {scope : Scope} {f : Addr} {fd : FuncData} {L : Str} {cs : List Str} {k i : Nat} (N : NamD X.K X.mg x qual params body scope f fd L cs) {D : Addr} {lbl : Str} (l : LblD X.K X.mg L cs D lbl)
    {a : Addr} {oe : Obj} {pn : List (Addr × Obj)} {y : Str} {p1 p2 p3 : Pos} (hz : L2N.Zn (.ref D) none oe) (hv : ∃ vs, oe.data = .fields vs) (hr : Room (k + 1) X.A) (hg : Gl X x) (hi : X.N[i]? = some y) (hy : Vis X.env.scope y) (hd : (x == ("__debug__" : Str)) = false) (hd2 : (y == ("__debug__" : Str)) = false) (hd3 : (y == ("__classdict__" : Str)) = false) :
    PE (X.suite a ((a, oe) :: pn)) (.Call (.Name x p1) [.Name y p2] [] p3) (fun σ H Q => σ[i]? = some (some (.ref a)) ∧ ∀ H', (∀ b o, H b = some o → H' b = some o) → Q (.str lbl) H') := by
  obtain ⟨vs, hv⟩ := hv
  have hot : Hot1 (X.suite a ((a, oe) :: pn)).A (a, oe) := ⟨rfl, vs, hv, hz.2.2 vs hv⟩
  have rm : RoomH (k + 1) (X.suite a ((a, oe) :: pn)).A := ⟨hr.dp, hr.un⟩
  refine ⟨fun pins s σ H Q I ⟨h1, h2⟩ => ?_⟩
  refine wpAny_Call_Name_kw (ld_glob (X := X.suite a ((a, oe) :: pn)) I hg N.gx ?_ hd)
  have ha : PA (X.suite a ((a, oe) :: pn)) [.Name y p2] (tCons (tVar i) tNil) := pa_cons (pe_var hi hy hd2 hd3) pa_nil
  refine PySem.W.callWith_K (h₀ := X.base) I.ok.mod.kin N.fn.kp (thn (ha.run p3 pins s σ H (fun vs H1 => vs = [.ref a] ∧ H1 = H) I ⟨_, h1, rfl, rfl⟩) fun us s1 ⟨vs1, H1, I1, r, e1, e2⟩ => ⟨I1.kIn, ?_⟩) rfl rfl
  subst e1 e2
  obtain rfl : us = [Value.ref a] := by
    cases r with
    | cons rx rr => cases rr; cases rx; rfl
  have P1 := I1.pin (a, oe) (List.mem_append_left _ List.mem_cons_self)
  have hpin : PinOk (X.suite a ((a, oe) :: pn)).stack H1 s1 (a, oe) := ⟨P1.1, P1.2.1, fun hm => (List.mem_cons.mp (I1.stkSub a hm)).elim P1.2.2.1 P1.2.2.2.1, P1.2.2.2.2⟩
  have b := N.bi s1 [.ref a] I1.kIn rfl
  refine wpAny_call (codeAny_mono (names_run (P := X.prog) (w := X.w) (base := X.base) (Q := Q) (outer := X.stack) N l rm hot hpin hz.zc I1.env0 b h2) fun r s' hq => ?_)
  cases r with
  | error e => exact (show False from hq).elim
  | ok fl =>
    cases fl with
    | ret u => exact I1.after hq
    | next => exact False.elim hq
    | brk => exact False.elim hq
    | cont => exact False.elim hq
end Mh
set_option Elab.async false
set_option linter.all false
set_option maxRecDepth 100000
set_option maxHeartbeats 4000000
/-! Ng: error(lambda: e), the def that calls what it gets and names the exception. -/
namespace Mh
open PySem PySem.Spec PyProof.Rows HotX L2 L2H LamX
/-- the context of the lambda's body -/
abbrev lamN (X : Cx) (A : Around) (outer : List Env) (s : Shared) (H : Hp) (E : XK) (scope : Scope) (f c' : Addr) : Cx := (lamCx X A outer s H E scope f c').tr []
  (fun e s' => wpAny (model X.prog X.w) (A.deeper (lamEnv X scope s.heap.objs.size f c')) (leaving (lamEnv X scope s.heap.objs.size f c') e) (fun _ s'' => L2N.CX X.prog X.w outer H s E e s'') (fun e' s'' => L2N.CX X.prog X.w outer H s E e' s'') s')
theorem lamN_takes {X : Cx} {A : Around} {outer : List Env} {s : Shared} {H : Hp} {E : XK} {scope : Scope} {f c' : Addr} : L2N.Takes (lamN X A outer s H E scope f c') (fun cls d _ H => E cls d H) := L2N.takes_of rfl rfl rfl rfl
section
variable {X : Cx} {pins : List (Addr × Obj)} {σ : L2.St} {H : Hp} {s : Shared}
theorem pe_actN {Ng : List Str} {qg : Str} {sg : Scope} {g f c' : Addr} {cdg pm ctv : Value} {params : Arguments} {body : Expr} {scope : Scope} {k i : Nat} {a : Str} {pn : List (Addr × Obj)} {xe : Value → Shared → Prop} {W : WX} {E : XK} {tb : TE} {p1 p2 : Pos}
    (I : Inv X pins σ H s) (L : LamS X.env.scope scope) (hf : s.heap.get? f = some (PySem.W.kla_obj "<lambda>" (X.env.qual ++ "<lambda>") params body scope (cloFrom X.env.cells scope.names []) pm c' ctv)) (hfn : H f = none) (hfr : f ∉ frs X.stack)
    (hbind : bindArgs (PySem.W.kla_fn "<lambda>" (X.env.qual ++ "<lambda>") params body scope (cloFrom X.env.cells scope.names []) pm (.ref c') ctv) ⟨[], []⟩ = pure [])
    (tk : L2N.Takes ((cxOf C8.CX0 X.prog X.w X.K X.mg X.base Ng qg sg g cdg X.A X.stack s H C8.E0).tr pn xe) W) (hr : Room (k + 1) (X.A.deeper (envOfC qg sg s.heap.objs.size g cdg)))
    (hbody : ∀ (A : Around) (outer : List Env) (s : Shared) (H : Hp), Room k (A.deeper (lamEnv X scope s.heap.objs.size f c')) → PE (lamN X A outer s H E scope f c') body tb)
    (hN : Ng[i]? = some a) (hv : Vis sg a) (hd : (a == ("__debug__" : Str)) = false) (hcd : (a == ("__classdict__" : Str)) = false) :
    PE ((cxOf C8.CX0 X.prog X.w X.K X.mg X.base Ng qg sg g cdg X.A X.stack s H C8.E0).tr pn xe) (.Call (.Name a p1) [] [] p2) (fun σZ HZ Q => (∀ cls d H', E cls d H' → W cls d σZ H') ∧ σZ[i]? = some (some (.ref f)) ∧ HZ c' = some (CodeO c' (X.env.qual ++ "<lambda>")) ∧ tb σ HZ Q) := by
  refine ⟨fun pinsZ sZ σZ HZ Q IZ ⟨hW, hs, hc, ht⟩ => ?_⟩
  refine wpAny_Call_Name_kw (thn ((pe_var (pos := p1) (i := i) hN hv hd hcd).run pinsZ sZ σZ HZ (fun v H1 => v = .ref f ∧ H1 = HZ) IZ ⟨.ref f, hs, rfl, rfl⟩) fun u s1 ⟨v, H1, I1, r1, ev, eH⟩ => ?_)
  subst ev
  rw [eH] at I1
  obtain rfl : u = Value.ref f := r1
  have of1 := I1.base.keep f _ hf hfn hfr (fun z => nomatch (show f ∈ ([] : List Addr) from z))
  refine PySem.W.callWith_F0 ⟨_, _, _, _, of1⟩ ?_
  have un : Un (frs X.stack) [] H HZ s.heap s1.heap := I1.base
  obtain ⟨⟨oc, vs, t, hoc, hdc, hvc⟩, _, _⟩ := I1.hok c' _ hc
  have rc : codeAny (model X.prog X.w) (X.A.deeper (envOfC qg sg s.heap.objs.size g cdg)) (.call (.ref f) ⟨[], []⟩) (CR (L2N.CX X.prog X.w) (envOfC qg sg s.heap.objs.size g cdg :: X.stack) X.prog X.w HZ s1 Q E) s1 := by
    refine PySem.W.kla_callFunE hr.depth of1 rfl L.co L.gen rfl ⟨c', oc, vs, t, rfl, hoc, hdc, hvc⟩ ?_
    rw [hbind]
    refine wpAny_pure (wpAny_newFunctionEnv (fun y hy => (L.own y hy).2) (fun y hy => absurd hy (by simp)) (fun h₁ hns hsb => ⟨I1.nolimit.fresh _ hsb, ?_⟩) L.kind)
    show codeAny _ _ (.expr body (lamEnv X scope s1.heap.objs.size f c')) _ _
    have kp : ∀ b o, s1.heap.get? b = some o → h₁.get? b = some o := fun b o e => hsb.extBut b o (Nat.ne_of_lt (Heap.lt_size e)) (Heap.get?_push_of_some _ e)
    have J0 := lam_start2 (E := E) (f := f) (c' := c') (tk := s1.toks + ([] : List (Str × Value)).length) I L I1.env0 hr.hd un hns kp
    have J : Inv (lamN X (X.A.deeper (envOfC qg sg s.heap.objs.size g cdg)) (envOfC qg sg s.heap.objs.size g cdg :: X.stack) s1 HZ E scope f c') [] σ HZ { s1 with heap := h₁, toks := s1.toks + ([] : List (Str × Value)).length } := J0.toTry _
    exact PySem.W.kla_codeExpr (wpAny_mono ((hbody _ _ s1 HZ (hr.deeper _)).run [] _ _ HZ Q J ht) (fun v s' ⟨w', H', J', rv, q⟩ => ⟨w', H', J'.os, J'.bare, J'.base, J'.hok, rv, q⟩) fun e s' hq => hq)
  refine wpAny_call (codeAny_mono rc fun r s' hq => ?_)
  cases r with
  | error e => exact tk e s' (L2N.XE.of_call I1 hW hq)
  | ok fl =>
    cases fl with
    | ret u => exact I1.after hq
    | next => exact False.elim hq
    | brk => exact False.elim hq
    | cont => exact False.elim hq
end
/-- all but the tables stay, and these stay tables -/
def ExtT (H H' : Hp) : Prop := ExtN H H' ∧ (∀ b o, H b = some o → ∃ o', H' b = some o') ∧ ∀ b ps, H' b = some (.tbl ps) → ∃ qs, H b = some (.tbl qs)
theorem ExtT.refl {H : Hp} : ExtT H H := ⟨ExtN.refl H, fun _ o h => ⟨o, h⟩, fun _ ps h => ⟨ps, h⟩⟩
theorem lam_make3 {X : Cx} {pins : List (Addr × Obj)} {σ : L2.St} {H : Hp} {s : Shared} {T : List (Addr × Str)} {c P : Addr} {params : Arguments} {body : Expr} {scope : Scope} {pos : Pos} {E : Value → Shared → Prop} {Q : Value → Shared → Prop} (I : Inv X pins σ H s) (TB : TabB X.base X.mg c P) (hcode : X.env.code = .ref c)
    (hm : (P, X.env.qual ++ "<lambda>") ∈ T) (hu : ∀ p ∈ T, p.1 = P → p.2 = X.env.qual ++ "<lambda>") (hT : Tabs T H) (hdef : defaultsOf params X.env = ([], [])) (hfree : ∀ y ∈ scope.names, y.2 = .free → ∃ c, X.env.cells.lookup y.1 = some c)
    (h : ∀ (f c' : Addr) (pm ctv : Value) (H1 : Hp) (s' : Shared), Inv X pins σ H1 s' → ExtT H H1 → Tabs T H1 →
      s'.heap.get? f = some (PySem.W.kla_obj "<lambda>" (X.env.qual ++ "<lambda>") params body scope (cloFrom X.env.cells scope.names []) pm c' ctv) → H1 f = none → f ∉ frs X.stack → H1 c' = some (CodeO c' (X.env.qual ++ "<lambda>")) → Q (.ref f) s') :
    wpAny (model X.prog X.w) X.A (eval (.Lambda params body scope pos) X.env) Q E s := by
  obtain ⟨ps, hP, ht, ha⟩ := hT _ hm
  have bP : s.heap.BuiltinsAt X.mg P := TB.bm.keeps I.bk
  have hP' := I.hok P _ hP
  have nofr : ∀ f, s.heap.objs.size ≤ f → f ∉ frs X.stack := fun f hf z => by
    rcases List.mem_cons.mp (I.stkSub _ z) with e | e
    · exact Nat.lt_irrefl _ (Nat.lt_of_lt_of_le (by rw [e]; exact I.lt) hf)
    · exact I.nofs hf e
  refine PySem.W.kla_eval hdef ?_
  cases hc : codeAmong pos ps.toList with
  | some cv =>
    obtain ⟨c', rfl, hco⟩ := ha pos cv hc
    exact PySem.W.kla_makeFunctionHit (mg := X.mg) (c := c) (P := P) (ps := ps) (closure_ok hfree) I.ok.glob (I.mod.glob.keeps I.bk) hcode (TB.code.keeps I.bk) hP' ht hc bP fun ctv h' tk hx hsz =>
      h h'.objs.size c' ((X.mg "__name__").getD .none) ctv H _ (I.kept fun b o e => Heap.get?_push_of_some _ (hx b o e)) ExtT.refl hT (Heap.get?_push_size _ rfl) (I.hok.fresh hsz) (nofr _ hsz) hco
  | none =>
    refine PySem.W.kla_makeFunction (mg := X.mg) (c := c) (P := P) (ps := ps) (closure_ok hfree) I.ok.glob (I.mod.glob.keeps I.bk) hcode (TB.code.keeps I.bk) hP' ht hc TB.gP bP fun c' ctv h' tk hx hge hlt hrec htb => ?_
    obtain ⟨c2, oc, vs, t, e2, hoc, hd, hv⟩ := hrec
    cases e2
    have hsz : s.heap.objs.size ≤ h'.objs.size := Nat.le_trans hge (Nat.le_of_lt hlt)
    have nC : H c' = none := I.hok.fresh hge
    have nPc : P ≠ c' := ne_of_none hP nC
    have I1 := inv_table (t' := tk) (more := #[rawInt pos.line, rawInt pos.col, .ref c']) (h' := h'.push (PySem.W.kla_obj "<lambda>" (X.env.qual ++ "<lambda>") params body scope (cloFrom X.env.cells scope.names []) ((X.mg "__name__").getD .none) c' ctv)) I hP
      (fun b o hb e => Heap.get?_push_of_some _ (hx b o hb e)) (Heap.get?_push_of_some _ htb) hge ⟨oc, vs, t, Heap.get?_push_of_some _ hoc, hd, hv⟩
    obtain ⟨qs, hqs⟩ : ∃ qs, ps ++ #[rawInt pos.line, rawInt pos.col, .ref c'] = qs := ⟨_, rfl⟩
    have eL : qs.toList = ps.toList ++ [rawInt pos.line, rawInt pos.col, .ref c'] := by rw [← hqs]; simp
    rw [hqs] at I1
    have hE : ExtN H (upd (upd H P (.tbl qs)) c' (CodeO c' (X.env.qual ++ "<lambda>"))) := fun b o e n => by
      rw [upd_ne (ne_of_none e nC), upd_ne (fun z => n ps (Option.some.inj (e.symm.trans (by rw [z]; exact hP))))]
      exact e
    have hE2 : ExtT H (upd (upd H P (.tbl qs)) c' (CodeO c' (X.env.qual ++ "<lambda>"))) := by
      refine ⟨hE, fun b o e => ?_, fun b us e => ?_⟩
      · rw [upd_ne (ne_of_none e nC)]
        by_cases hb : b = P
        · rw [hb, upd_same]; exact ⟨_, rfl⟩
        · rw [upd_ne hb]; exact ⟨o, e⟩
      · by_cases hb : b = c'
        · rw [hb, upd_same] at e
          exact absurd (Option.some.inj e) (codeO_ne us)
        · rw [upd_ne hb] at e
          by_cases hb2 : b = P
          · rw [hb2]; exact ⟨_, hP⟩
          · rw [upd_ne hb2] at e; exact ⟨_, e⟩
    refine h h'.objs.size c' ((X.mg "__name__").getD .none) ctv _ _ I1 hE2 (fun p hp => ?_) (Heap.get?_push_size _ rfl) ?_ (nofr _ hsz) upd_same
    · by_cases hb : p.1 = P
      · rw [hu p hp hb, hb]
        refine ⟨_, by rw [upd_ne nPc, upd_same], by rw [eL]; exact PySem.TriplesOk_snoc _ _ _ _ ht, fun p' cv hcv => ?_⟩
        rw [eL] at hcv
        rcases among_app _ ht hcv with z | z
        · obtain ⟨c0, e1, e2⟩ := ha p' cv z
          exact ⟨c0, e1, hE _ _ e2 codeO_ne⟩
        · exact ⟨c', z, upd_same⟩
      · obtain ⟨ps', a1, a2, a3⟩ := hT p hp
        refine ⟨ps', by rw [upd_ne (ne_of_none a1 nC), upd_ne hb]; exact a1, a2, fun p' cv hcv => ?_⟩
        obtain ⟨c0, e1, e2⟩ := a3 p' cv hcv
        exact ⟨c0, e1, hE _ _ e2 codeO_ne⟩
    · rw [upd_ne (Nat.ne_of_gt hlt), upd_ne (Nat.ne_of_gt (Nat.lt_of_lt_of_le (Heap.lt_size hP') hsz))]
      exact I.hok.fresh hsz
/-- the names that such a def uses -/
def NE : List Str := ["call", "e"]
def cL : List Str := ["call"]
/-- try: call() / except CardError as e: return names(e) / return '' -/
def errOf (sc : Scope) : List Stmt → Option (Str × Str)
  | [.Try [.Expr (.Call (.Name a _) [] [] _) _] [.ExceptHandler (some (.Name c _)) (some n) [.Return (some (.Call (.Name x _) [.Name y _] [] _)) _] _] [] [] _, .Return (some (.Constant (.str z) _ _)) _] =>
    if (a = "call" ∧ n = "e" ∧ y = "e" ∧ z = "") ∧ Mi.locB sc "call" = true ∧ (sc.names.lookup ("e" : Str) == some NameKind.local) = true ∧ Mi.glB sc c = true ∧ Mi.glB sc x = true then some (c, x) else none
  | _ => none
/-- the exception class D is a card's, and is named lbl -/
def LblE (K : PySem.W.Frag) (mg : Str → Option Value) (L : Str) (cs : List Str) (CE D : Addr) (lbl : Str) : Prop := PySem.W.exmOne K (.ref D) (.ref CE) = some true ∧ LblD K mg L cs D lbl
structure ErrD (K : PySem.W.Frag) (mg : Str → Option Value) (x : Str) (params : Arguments) (body : List Stmt) (scope : Scope) (g : Addr) (fd : FuncData) (L : Str) (cs : List Str) (CE : Addr) : Prop where
  fn : FunD K x x params body scope [] [] g fd
  sc : FnScope NE cL scope
  bd : ∃ c nx, errOf scope body = some (c, nx) ∧ mg c = some (.ref CE) ∧ ∃ qual pa bo sn fn fdn, NamD K mg nx qual pa bo sn fn fdn L cs
  bi : L2.Binds K fd cL []
  gx : mg x = some (.ref g)
def TErr (K : PySem.W.Frag) (mg : Str → Option Value) (L : Str) (cs : List Str) (CE : Addr) : (XK → Hp → VK → Prop) → Hp → VK → Prop := fun tl H Q =>
  tl (fun cls d H' => ∃ D lbl, cls = .ref D ∧ d = none ∧ LblE K mg L cs CE D lbl ∧ ∀ H'', (∀ b o, H' b = some o → H'' b = some o) → Q (.str lbl) H'') H (fun _ H' => Q (.str "") H')
theorem err_ps {X : Cx} {k : Nat} {body : List Stmt} {sg : Scope} {g : Addr} {cdg : Value} {x : Str} {L : Str} {cs : List Str} {CE : Addr} {c nx : Str} (h : errOf sg body = some (c, nx)) (hm : X.mg c = some (.ref CE)) {qual : Str} {pa : Arguments} {bo : List Stmt} {sn : Scope} {fn : Addr} {fdn : FuncData} (N : NamD X.K X.mg nx qual pa bo sn fn fdn L cs)
    {f c' : Addr} {s : Shared} {H : Hp} {Q : VK} {tl : XK → Hp → VK → Prop} {q : Str} (hr : Room (k + 1) (X.A.deeper (envOfC x sg s.heap.objs.size g cdg)))
    (act : ∀ (W : WX) (pn : List (Addr × Obj)) (xe : Value → Shared → Prop) (E : XK) (p1 p2 : Pos), L2N.Takes ((cxOf C8.CX0 X.prog X.w X.K X.mg X.base NE x sg g cdg X.A X.stack s H C8.E0).tr pn xe) W →
      PE ((cxOf C8.CX0 X.prog X.w X.K X.mg X.base NE x sg g cdg X.A X.stack s H C8.E0).tr pn xe) (.Call (.Name "call" p1) [] [] p2) (fun σZ HZ Q => (∀ cls d H', E cls d H' → W cls d σZ H') ∧ σZ[0]? = some (some (.ref f)) ∧ HZ c' = some (CodeO c' q) ∧ tl E HZ Q))
    (hc : H c' = some (CodeO c' q)) (hT : TErr X.K X.mg L cs CE tl H Q) :
    ∃ t, PSs (cxOf C8.CX0 X.prog X.w X.K X.mg X.base NE x sg g cdg X.A X.stack s H C8.E0) body t ∧ t { nx := fun _ H' => Q .non H', rt := Q, bk := fun _ _ => False, ct := fun _ _ => False } (L2.start NE [.ref f]) H := by
  unfold errOf at h
  split at h
  · rename_i a _ _ _ c _ n xm y _ _ _ _ z _ _ _
    split at h
    · rename_i hq
      obtain ⟨⟨rfl, rfl, rfl, rfl⟩, l1, l2, l3, l4⟩ := hq
      cases h
      have he : sg.names.lookup ("e" : Str) = some .local := eq_of_beq l2
      have gl : ∀ {y : Str}, Mi.glB sg y = true → Gl (cxOf C8.CX0 X.prog X.w X.K X.mg X.base NE x sg g cdg X.A X.stack s H C8.E0) y := fun {y} h => (Mi.gl_of h).1
      refine ⟨_, pss_cons (L2N.ps_try_as (X := cxOf C8.CX0 X.prog X.w X.K X.mg X.base NE x sg g cdg X.A X.stack s H C8.E0) (c := .ref CE) (i := 1) (Wout := fun _ _ _ _ => False)
        (tb := fun W D σ H => ∃ Ech : XK, (∀ cls d H', Ech cls d H' → W cls d σ H') ∧ σ[0]? = some (some (.ref f)) ∧ H c' = some (CodeO c' q) ∧ tl Ech H (fun _ H' => D.nx σ H'))
        (ts := fun a cls d => fun D σ H => ∃ Dc lbl, cls = .ref Dc ∧ d = none ∧ LblD X.K X.mg L cs Dc lbl ∧ σ[1]? = some (some (.ref a)) ∧ ∀ H', (∀ b o, H b = some o → H' b = some o) → D.rt (.str lbl) H')
        rfl rfl (show NE.Nodup by decide +kernel) rfl he ⟨gl l3, (Mi.gl_of l3).2.1, .inl hm⟩ (fun u s' x => ?_) (fun W pn xe tk po => ?_) (fun a oe cls d pn hz hv => ?_)) (pss_one (ps_ret pe_str)), ?_⟩
      · obtain ⟨_, _, _, _, _, _, _, _, _, _, _, _, _, _, _, _, z⟩ := x
        exact z.elim
      · refine ⟨fun pins s' σ H' D I ⟨Ech, hW, h1, h2, h3⟩ => ?_⟩
        exact (pss_one (ps_expr (act W pn xe Ech _ _ tk) rfl)).run pins s' σ H' D I ⟨hW, h1, h2, h3⟩
      · refine ⟨fun pins s' σ H' D I ⟨Dc, lbl, e1, e2, hl, h1, h2⟩ => ?_⟩
        subst e1 e2
        exact (pss_one (ps_ret (pe_namesS (X := cxOf C8.CX0 X.prog X.w X.K X.mg X.base NE x sg g cdg X.A X.stack s H C8.E0) N hl hz hv hr (gl l4) (i := 1) rfl (.inl he) (Mi.gl_of l4).2.1 (by decide +kernel) (by decide +kernel)))).run pins s' σ H' D I ⟨h1, h2⟩
      · refine ⟨fun cls d H' => ∃ D lbl, cls = .ref D ∧ d = none ∧ LblE X.K X.mg L cs CE D lbl ∧ ∀ H'', (∀ b o, H' b = some o → H'' b = some o) → Q (.str lbl) H'', fun cls d H' ⟨Dc, lbl, e1, e2, ⟨e3, e4⟩, e5⟩ => ?_, rfl, hc, hT⟩
        subst e1 e2
        exact ⟨true, e3, fun _ a ha => ⟨Dc, lbl, rfl, rfl, e4, rfl, e5⟩, fun z => by cases z⟩
    · cases h
  · cases h
theorem errOf_vis {sc : Scope} {body : List Stmt} {r : Str × Str} (h : errOf sc body = some r) : Vis sc "call" := by
  unfold errOf at h
  split at h
  · split at h
    · rename_i hq
      exact (Mi.loc_of hq.2.1).elim (fun k => .inl k) (fun k => .inr (.inl k))
    · cases h
  · cases h
/-- error(lambda: e) -/
theorem pe_err {X : Cx} {T : List (Addr × Str)} {x : Str} {g c P : Addr} {k : Nat} {pg : Arguments} {bg : List Stmt} {sg : Scope} {fd : FuncData} {L : Str} {cs : List Str} {CE : Addr} {params : Arguments} {body : Expr} {scope : Scope} {t : XK → TE} {p lpos pos : Pos} (ED : ErrD X.K X.mg x pg bg sg g fd L cs CE) (hg : Gl X x)
    (TB : TabB X.base X.mg c P) (hcode : X.env.code = .ref c) (hmT : (P, X.env.qual ++ "<lambda>") ∈ T) (hu : ∀ p ∈ T, p.1 = P → p.2 = X.env.qual ++ "<lambda>") (hr : Room (k + 2) X.A) (Ls : LamS X.env.scope scope) (hdef : defaultsOf params X.env = ([], []))
    (hbind : ∀ (q : Str) (cl : List (Str × Addr)) (pm cv ctv : Value), bindArgs (PySem.W.kla_fn "<lambda>" q params body scope cl pm cv ctv) ⟨[], []⟩ = pure [])
    (hbody : ∀ (A : Around) (outer : List Env) (s : Shared) (H : Hp) (E : XK) (f c' : Addr), Room k (A.deeper (lamEnv X scope s.heap.objs.size f c')) → PE (lamN X A outer s H E scope f c') body (t E)) (hdb : (x == ("__debug__" : Str)) = false) :
    PE X (.Call (.Name x p) [.Lambda params body scope lpos] [] pos) (fun σ H Q => Tabs T H ∧ ∀ H1, ExtT H H1 → Tabs T H1 → TErr X.K X.mg L cs CE (fun E H' Q' => t E σ H' Q') H1 Q) := by
  obtain ⟨oc, od, dV, kV, doc, pm, an, cdv, ct, osl, rfl, lk, hcg, _, _⟩ := ED.fn.ex
  obtain ⟨ce, nx, hbd, hce, qual, pa, bo, sn, fn, fdn, N⟩ := ED.bd
  have Sg := ED.sc
  refine ⟨fun pins s σ H Q I ⟨hT, h⟩ => ?_⟩
  refine wpAny_Call_Name_kw (ld_glob I hg ED.gx ?_ hdb)
  refine PySem.W.callWith_K (h₀ := X.base) I.ok.mod.kin ED.fn.kp ?_ (by rfl) (by rfl)
  show wpAny _ _ (spliced ((false, eval (.Lambda params body scope lpos) X.env) :: backTo pos (starEach [] X.env))) _ _ s
  refine Calls.spliced_cons (lam_make3 I TB hcode hmT hu hT hdef (Ls.has I.ok) fun f c' pm' ctv H1 s' I1 eN T1 hf hfn hfr hco => Calls.spliced_nil ⟨I1.kIn, ?_⟩)
  have rc : codeAny (model X.prog X.w) X.A (.call (.ref g) ⟨[.ref f], []⟩) (CR C8.CX0 X.stack X.prog X.w H1 s' Q C8.E0) s' := by
    refine run_ofS (N := NE) (ps := cL) (us := [.ref f]) (vs := [.ref f]) lk hcg Sg hr I1.env0 (ED.bi s' [.ref f] I1.kIn rfl) (.cons rfl .nil) rfl fun hr' => ?_
    refine err_ps (k := k) hbd hce N hr' (fun W pn xe E p1 p2 tk => ?_) hco (h H1 eN T1)
    exact pe_actN (i := 0) I1 Ls hf hfn hfr (hbind _ _ _ _ _) tk hr' (fun A outer s H hr2 => hbody A outer s H E f c' hr2) rfl (errOf_vis hbd) (by decide +kernel) (by decide +kernel)
  refine wpAny_call (codeAny_mono rc fun r s2 hq => ?_)
  cases r with
  | error e => exact (show False from hq).elim
  | ok fl =>
    cases fl with
    | ret u => exact I1.after hq
    | next => exact False.elim hq
    | brk => exact False.elim hq
    | cont => exact False.elim hq
end Mh
set_option Elab.async false
set_option linter.all false
set_option maxRecDepth 100000
set_option maxHeartbeats 4000000
/-! Mka: error(lambda: e) in the small language. -/
namespace Mi
open PySem PySem.Spec PyProof.Rows L2 RZ
section
variable {K : PySem.W.Frag} {mg : Str → Option Value} {T : TW} {ι Z : List Addr} {H H' : Hp} {μ : List Mo}
theorem ext_up (h : ∀ b o, H b = some o → H' b = some o) : Ext ι [] H ι H' := ⟨⟨[], by simp, by simp⟩, fun a o q _ _ _ => h a o q, fun a o q => ⟨o, h a o q⟩, fun a xs q => h a _ q⟩
theorem RG.up (g : RG K mg T ι Z H μ) (h : ∀ b o, H b = some o → H' b = some o) : RG K mg T ι Z H' μ := by
  refine ⟨g.nd, g.len, fun n m hm => ?_, fun z hz => ?_, LamX.Tabs.ext g.tabs h⟩
  · obtain ⟨a, h1, h2⟩ := g.mem n m hm
    obtain ⟨o, q, _⟩ := h2.at
    exact ⟨a, h1, h2.ext (ext_up h) (by simp) (fun z q => .inl q) ((h _ _ q).trans q.symm)⟩
  · obtain ⟨⟨vs, q⟩, n⟩ := g.zl z hz
    exact ⟨⟨vs, h _ _ q⟩, n⟩
theorem ext_T (h : Mh.ExtT H H') : Ext ι [] H ι H' := ⟨⟨[], by simp, by simp⟩, fun a o q _ _ n => h.1 a o q n, fun a o q => h.2.1 a o q, fun a xs q => h.1 a _ q (fun _ z => by cases z)⟩
theorem RG.upT (g : RG K mg T ι Z H μ) (h : Mh.ExtT H H') (t : LamX.Tabs T.l H') : RG K mg T ι Z H' μ := by
  refine ⟨g.nd, g.len, fun n m hm => ?_, fun z hz => ?_, t⟩
  · obtain ⟨a, h1, h2⟩ := g.mem n m hm
    obtain ⟨o, q, _, n, _⟩ := h2.at
    exact ⟨a, h1, h2.ext (ext_T h) (by simp) (fun z q => .inl q) ((h.1 _ _ q n).trans q.symm)⟩
  · obtain ⟨⟨vs, q⟩, n⟩ := g.zl z hz
    exact ⟨⟨vs, h.1 _ _ q (fun _ z => by cases z)⟩, n⟩
end
theorem m_err {X : Cx} {T : TW} {W : WX} {x : Str} {g c P : Addr} {k : Nat} {pg : Arguments} {bg : List Stmt} {sg : Scope} {fd : FuncData} {L : Str} {cs : List Str} {CE : Addr} {params : Arguments} {body : Expr} {scope : Scope} {ce : E} {nms : List (Str × Str)} {p lpos pos : Pos} (ED : Mh.ErrD X.K X.mg x pg bg sg g fd L cs CE) (hg : Gl X x)
    (TB : LamX.TabB X.base X.mg c P) (hcode : X.env.code = .ref c) (hmT : (P, X.env.qual ++ "<lambda>") ∈ T.l) (hu : ∀ p ∈ T.l, p.1 = P → p.2 = X.env.qual ++ "<lambda>") (hr : Room (k + 2) X.A) (Ls : LamX.LamS X.env.scope scope) (hdef : defaultsOf params X.env = ([], []))
    (hbind : ∀ (q : Str) (cl : List (Str × Addr)) (pm cv ctv : Value), bindArgs (PySem.W.kla_fn "<lambda>" q params body scope cl pm cv ctv) ⟨[], []⟩ = pure [])
    (hn : ∀ c lbl, nms.lookup c = some lbl → ∀ C, X.mg c = some (.ref C) → Mh.LblE X.K X.mg L cs CE C lbl)
    (hbody : ∀ (A : Around) (outer : List Env) (s : Shared) (H : Hp) (E : XK) (f c' : Addr), Room k (A.deeper (LamX.lamEnv X scope s.heap.objs.size f c')) → PE (Mh.lamN X A outer s H E scope f c') body (tE X.K X.mg T (fun cls d _ H => E cls d H) ce)) (hdb : (x == ("__debug__" : Str)) = false) :
    PE X (.Call (.Name x p) [.Lambda params body scope lpos] [] pos) (tE X.K X.mg T W (.err nms ce)) :=
  PE.imp (Mh.pe_err (t := fun E => tE X.K X.mg T (fun cls d _ H => E cls d H) ce) ED hg TB hcode hmT hu hr Ls hdef hbind hbody hdb) fun σ H Q h => by
    obtain ⟨ι, Z, Zf, μ, δ, g, sr, hp⟩ := h
    refine ⟨g.tabs, fun H1 eT T1 => ?_⟩
    have e1 : Ext ι [] H ι H1 := ext_T eT
    refine ⟨ι, Z, Zf, μ, δ, g.upT eT T1, sr.ext g e1, ?_⟩
    simp only [ev] at hp
    match hq : ev ce δ μ, hp with
    | some (.ok a, μ1), hp => exact fun ι' b H' e' g' r' => hp ι' (.str "") H' (e1.trans0 e') g' rfl
    | some (.error (c, none), μ1), hp =>
      intro ι' H' cv dx e' g' xr
      obtain ⟨⟨C, hC, rfl⟩, rfl⟩ := xr
      replace hp : post X.K X.mg T (Rp X.K X.mg) ι Z H (optR ((nms.lookup c).map D.str) μ1) Q (WS W σ) := hp
      cases hl : nms.lookup c with
      | none => rw [hl] at hp; exact hp.elim
      | some lbl =>
        rw [hl] at hp
        exact ⟨C, lbl, rfl, rfl, hn c lbl hl C hC, fun H'' u => hp ι' (.str lbl) H'' ((e1.trans0 e').trans0 (ext_up u)) (g'.up u) rfl⟩
    | some (.error (c, some d), μ1), hp => exact hp.elim
    | none, hp => exact hp.elim
/-! ### methods of texts -/
section
variable {X : Cx} {T : TW} {W : WX} {a b : Expr} {ca cb : E} {pos apos : Pos}
theorem m_meth0 {f : Bi} {id : String} {name : Str} (slot : Slot "str" name id) (ty : typeOf (.builtin id) = pure (.type "method_descriptor")) (rule : MtR X id (rM X.K X.mg T f)) (ho : PE X a (tE X.K X.mg T W ca)) (hb : attributeBase a name X.env (eval a X.env) = eval a X.env) (hl : (apos.endLine == pos.line) = true) :
    PE X (.Call (.Attribute a name apos) [] [] pos) (tE X.K X.mg T W (.meth f ca .nil)) :=
  PE.imp (pe_m0 slot ty rule ho hb hl) fun σ H Q h => by
    obtain ⟨ι, Z, Zf, μ, δ, g, sr, hp⟩ := h
    refine ⟨ι, Z, Zf, μ, δ, g, sr, post.bind hp fun x μ1 ι1 v H1 e1 g1 r1 hp1 => ?_⟩
    cases x with
    | str z =>
      have r1' : v = V.str z := r1
      subst r1'
      simp only [evs, bindR, retR] at hp1
      unfold optR at hp1
      cases ho : f.do μ1 [.str z] with
      | none => rw [ho] at hp1; exact hp1.elim
      | some r => rw [ho] at hp1; exact ⟨⟨z, rfl⟩, ι1, Z, μ1, [.str z], r, g1, ⟨_, _, rfl, rfl, rfl⟩, ho, hp1⟩
    | _ => exact hp1.elim
theorem m_meth1 {f : Bi} {id : String} {name : Str} (slot : Slot "str" name id) (ty : typeOf (.builtin id) = pure (.type "method_descriptor")) (rule : MtR X id (rM X.K X.mg T f)) (ho : PE X a (tE X.K X.mg T W ca)) (he : PE X b (tE X.K X.mg T W cb)) (hs : starEach [b] X.env = [(false, eval b X.env)]) (hb : attributeBase a name X.env (eval a X.env) = eval a X.env) (hl : (apos.endLine == pos.line) = true) :
    PE X (.Call (.Attribute a name apos) [b] [] pos) (tE X.K X.mg T W (.meth f ca (.cons cb .nil))) :=
  PE.imp (pe_m1 slot ty rule ho he hs hb hl) fun σ H Q h => by
    obtain ⟨ι, Z, Zf, μ, δ, g, sr, hp⟩ := h
    refine ⟨ι, Z, Zf, μ, δ, g, sr, post.bind hp fun x μ1 ι1 v H1 e1 g1 r1 hp1 => ?_⟩
    cases x with
    | str z =>
      have r1' : v = V.str z := r1
      subst r1'
      refine ⟨⟨z, rfl⟩, ι1, Z, Zf, μ1, δ, g1, sr.ext g e1, ?_⟩
      have hp2 : post X.K X.mg T (Rp X.K X.mg) ι1 Z H1 (bindR (ev cb δ μ1) fun y μ => optR (f.do μ [.str z, y]) μ) Q (WS W σ) := by
        simp only [evs] at hp1
        revert hp1
        cases ev cb δ μ1 with
        | none => exact fun h => h
        | some r => obtain ⟨r, μ2⟩ := r; cases r <;> exact fun h => h
      refine post.bind hp2 fun y μ2 ι2 w H2 e2 g2 r2 hp3 => ?_
      unfold optR at hp3
      cases ho : f.do μ2 [.str z, y] with
      | none => rw [ho] at hp3; exact hp3.elim
      | some r => rw [ho] at hp3; exact ⟨ι2, Z, μ2, [.str z, y], r, g2, ⟨_, _, rfl, rfl, _, _, rfl, r2, rfl⟩, ho, hp3⟩
    | _ => exact hp1.elim
end
end Mi
set_option Elab.async false
set_option linter.all false
set_option maxRecDepth 100000
set_option maxHeartbeats 4000000
/-! Mk: the small language's terms are read off the text; what is read off is right. -/
namespace Mi
open PySem PySem.Spec PyProof.Rows L2 RZ
/-- what the reader knows: the own defs with their numbers of parameters, the constants, the exceptions, and of one def: the slots of lists that one name alone holds, the places where changeable lists are made, the rows ahead of which such a list is given out -/
structure Cf where
  fns : List (Str × Nat × Sem) := []
  cons : List (Str × D) := []
  excs : List Str := []
  lin : List Nat := []
  ml : List (Nat × Nat) := []
  still : List (Nat × List Nat) := []
  err : Option (Str × List (Str × Str)) := none
  lam : Bool := false
  tru : List (Nat × Nat) := []
  xcs : List Str := []
/-- where no lambda is made -/
def Cf.nolam (cf : Cf) : Cf := { cf with lam := false, xcs := [] }
def ixOf (x : Str) : List Str → Option Nat
  | [] => none
  | y :: ys => if decide (y = x) = true then some 0 else (ixOf x ys).map (· + 1)
def slotOf (N : List Str) (sc : Scope) (x : Str) : Option Nat := if (visB sc x && !(x == ("__debug__" : Str)) && !(x == ("__classdict__" : Str))) = true then ixOf x N else none
def opOf : Operator → Option Op
  | .Add => some .add
  | .Sub => some .sub
  | .Mult => some .mul
  | .FloorDiv => some .fdiv
  | .Mod => some .mod
  | .Pow => some .pow
  | _ => none
def cmOf : CmpOp → Op
  | .Eq => .eq
  | .NotEq => .ne
  | .Lt => .cm .lt
  | .LtE => .cm .le
  | .Gt => .cm .gt
  | .GtE => .cm .ge
  | .Is => .is_
  | .IsNot => .isn
  | .In => .in_
  | .NotIn => .nin
def tyOf (x : Str) : Option String :=
  if decide (x = "int") = true then some "int" else if decide (x = "bool") = true then some "bool" else if decide (x = "str") = true then some "str" else if decide (x = "tuple") = true then some "tuple" else if decide (x = "list") = true then some "list" else none
/-- the built-ins that are called: (which, whether it is a class) -/
def biOf (x : Str) : Option Bi :=
  if decide (x = "len") = true then some .len else if decide (x = "abs") = true then some .abs else if decide (x = "int") = true then some .int else if decide (x = "str") = true then some .str else if decide (x = "min") = true then some .min
  else if decide (x = "max") = true then some .max else if decide (x = "sum") = true then some .sum else if decide (x = "list") = true then some .list else if decide (x = "tuple") = true then some .tuple else if decide (x = "isinstance") = true then some .isi
  else if decide (x = "bool") = true then some .bool else none
def biNames : List Str := ["len", "abs", "int", "str", "min", "max", "sum", "list", "tuple", "isinstance", "bool", "range", "enumerate", "zip", "dict"]
def isSl : Expr → Bool
  | .Slice .. => true
  | _ => false
def isIf : Expr → Bool
  | .IfExp .. => true
  | _ => false
def cEsF (f : Expr → Option E) : List Expr → Option Es
  | [] => some .nil
  | e :: es => (f e).bind fun c => (cEsF f es).map fun cs => .cons c cs
def cO (f : Expr → Option E) : Option Expr → Option Eo
  | none => some .no
  | some l => (f l).map .yes
/-- the test of a comprehension -/
def cIf (f : Expr → Option E) : List Expr → Option E
  | [] => some (.con (.bl true))
  | [c] => if isIf c = true then none else f c
  | _ => none
def cBo (f : Expr → Option E) (op : BoolOp) : List Expr → Option E
  | [] => none
  | [a] => f a
  | a :: b :: r => (f a).bind fun ca => (cBo f op (b :: r)).map fun cr => (match op with
    | .And => .and_ ca cr
    | .Or => .or_ ca cr)
/-- the slots of names -/
def nmsOf (N : List Str) (sc : Scope) : List Expr → Option (List Nat)
  | [] => some []
  | .Name x _ :: es => if locB sc x = true then (ixOf x N).bind fun i => (nmsOf N sc es).map fun is => i :: is else none
  | _ => none
def cTg (N : List Str) (sc : Scope) : Expr → Option Tg
  | .Name x _ => if locB sc x = true then (ixOf x N).map .name else none
  | .Tuple [.Name x _, .Name y _] _ _ => if (locB sc x && locB sc y) = true then (ixOf x N).bind fun i => (ixOf y N).map fun j => .pair (.name i) (.name j) else none
  | .Tuple [.Name x _, .Tuple [.Name y _, .Name z _] _ _] _ _ => if (locB sc x && locB sc y && locB sc z) = true then (ixOf x N).bind fun i => (ixOf y N).bind fun j => (ixOf z N).map fun k => .pair (.name i) (.pair (.name j) (.name k)) else none
  | .Tuple [.Name x _, .Name y _, .Name z _] _ _ => if (locB sc x && locB sc y && locB sc z) = true then (ixOf x N).bind fun i => (ixOf y N).bind fun j => (ixOf z N).map fun k => .trip (.name i) (.name j) (.name k) else none
  | .Tuple (e1 :: e2 :: e3 :: e4 :: es) _ _ => (nmsOf N sc (e1 :: e2 :: e3 :: e4 :: es)).map .many
  | _ => none
def isTup : Expr → Bool
  | .Tuple .. => true
  | _ => false
def isSet : Expr → Bool
  | .Set .. => true
  | _ => false
/-- what is walked -/
def cIt (f : Expr → Option E) (sc : Scope) (cf : Cf) (tg : Expr) (e : Expr) : Option It :=
  if isSet e = true then none else match e with
  | .Call (.Name g _) [a] [] _ => if glB sc g = true ∧ cf.fns.lookup g = none then (if decide (g = "range") = true then (f a).map .rng else if decide (g = "enumerate") = true then (if isTup tg = true then (f a).map .enum else none) else (f e).map .seq) else (f e).map .seq
  | .Call (.Name g _) [a, b] [] _ => if glB sc g = true ∧ cf.fns.lookup g = none then (if decide (g = "range") = true then (f a).bind fun ca => (f b).map fun cb => .rng2 ca cb else if decide (g = "zip") = true then (if isTup tg = true then (f a).bind fun ca => (f b).map fun cb => .zip ca cb else none) else (f e).map .seq) else (f e).map .seq
  | e => (f e).map .seq
/-- the names of a comprehension's own, with their slots -/
def ownOf (N : List Str) (sc : Scope) : List (Str × Nat) := sc.names.filterMap fun p => match p.2 with
  | .local => (ixOf p.1 N).map fun i => (p.1, i)
  | .cell => (ixOf p.1 N).map fun i => (p.1, i)
  | _ => none
/-- a lambda without parameters -/
def lamOf : Expr → Option (Scope × Expr)
  | .Lambda ⟨[], [], none, [], [], none, []⟩ b s _ => some (s, b)
  | _ => none
/-- list(range(b)) -/
def rngOf (cf : Cf) (sc : Scope) (f : Str) : Expr → List Expr → Option Expr
  | .Call (.Name g _) [b] [] _, [] => if f = "list" ∧ g = "range" ∧ glB sc g = true ∧ cf.fns.lookup g = none then some b else none
  | _, _ => none
/-- the methods of texts: without an argument, with one -/
def me0 (m : Str) : Option Bi := if m = "upper" then some .upper else none
def me1 (m : Str) : Option Bi := if m = "split" then some .split else if m = "join" then some .join else none
def callB : Expr → Bool
  | .Call (.Name _ _) [] [] _ => true
  | _ => false
/-- [x] * k as a changeable list -/
def mrepOf (cf : Cf) : Expr → Operator → Option Expr
  | .List [x] p, .Mult => if (p.line, p.col) ∈ cf.ml then some x else none
  | _, _ => none
/-- dict([(x, o[x]) for x in o]): the slots of x and o -/
def dcpOf (N : List Str) (sc : Scope) (f : Str) : Expr → List Expr → Option (Nat × Nat)
  | .ListComp (.Tuple [.Name x _, .Subscript (.Name o _) (.Name x2 _) _] _ _) [⟨.Name x3 _, .Name o2 _, [], 0⟩] sc2 _, [] =>
    if (decide (f = "dict") && decide (x2 = x) && decide (x3 = x) && decide (o2 = o) && glB sc "dict" && blkC N sc sc2 (ownOf N sc2) && visB sc o && visB (relS sc2 sc) o && visB (relS sc2 sc) x && locB sc2 x && !(o == ("__debug__" : Str)) && !(o == ("__classdict__" : Str)) && !(x == ("__debug__" : Str)) && !(x == ("__classdict__" : Str))) = true
    then (ixOf x N).bind fun i => (ixOf o N).bind fun io => if i ∈ (ownOf N sc2).map (·.2) ∧ io ∉ (ownOf N sc2).map (·.2) then some (i, io) else none else none
  | _, _ => none
/-- written text keys -/
def keysOf : List (Option Expr) → Option (List Str)
  | [] => some []
  | some (.Constant (.str k) _ _) :: r => (keysOf r).map (k :: ·)
  | _ => none
def cE (cf : Cf) (N : List Str) : Nat → Scope → Expr → Option E
  | 0, _, _ => none
  | n + 1, sc, e => match e with
    | .Name x _ => (match slotOf N sc x with
      | some i => some (.var i)
      | none => if glB sc x = true then (match cf.cons.lookup x with
        | some d => some (.con d)
        | none => if (cf.fns.lookup x).isSome = true then some (.con (.glo x)) else (tyOf x).map fun t => .con (.ty t)) else none)
    | .Constant (.int i) _ _ => some (.con (.int i))
    | .Constant (.bool b) _ _ => some (.con (.bl b))
    | .Constant (.str x) _ _ => some (.con (.str x))
    | .Constant .none _ _ => some (.con .non)
    | .BinOp a op b _ => (match mrepOf cf a op with
      | some x => (cE cf N n sc x).bind fun cx => (cE cf N n sc b).map fun cb => .mrep cx cb
      | none => (opOf op).bind fun o => (cE cf N n sc a).bind fun ca => (cE cf N n sc b).map fun cb => .op o ca cb)
    | .Dict [] [] _ => some .dnew
    | .Dict keys values _ => if keys.length = values.length ∧ keys.length ≤ 15 ∧ keys ≠ [] then (keysOf keys).bind fun ks => (cEsF (cE cf N n sc) values).map fun cs => .dct ks cs else none
    | .UnaryOp .USub a _ => (cE cf N n sc a).map .neg
    | .UnaryOp .Not (.Name x px) pn => if (pn.line, pn.col) ∈ cf.tru then (cE cf N n sc (.Name x px)).map .nott else (cE cf N n sc (.Name x px)).map .not_
    | .UnaryOp .Not a _ => if isIf a = true then none else (cE cf N n sc a).map .not_
    | .BoolOp op vs _ => if vs.any isIf = true then none else cBo (cE cf N n sc) op vs
    | .Compare a [op] [b] _ => if behindInMarks op b = true then none else (cE cf N n sc a).bind fun ca => (cE cf N n sc b).map fun cb => .op (cmOf op) ca cb
    | .Compare a [op, op'] [b, c] _ => if lastMarks [op, op'] [b, c] = true then none else (cE cf N n sc a).bind fun ca => (cE cf N n sc b).bind fun cb => (cE cf N n sc c).map fun cc => .chain (cmOf op) (cmOf op') ca cb cc
    | .IfExp c a b _ => if isIf c = true then none else (cE cf N n sc c).bind fun cc => (cE cf N n sc a).bind fun ca => (cE cf N n sc b).map fun cb => .ite cc ca cb
    | .Subscript a (.Slice lo hi none _) _ => (cE cf N n sc a).bind fun ca => (cO (cE cf N n sc) lo).bind fun cl => (cO (cE cf N n sc) hi).map fun ch => .slc ca cl ch
    | .Subscript a (.Slice none none (some (.UnaryOp .USub (.Constant (.int 1) _ _) _)) _) _ => (cE cf N n sc a).map .rev
    | .Subscript a b ps => if isSl b = true then none else (cE cf N n sc b).bind fun cb => (match a with
      | .Name x _ => (match slotOf N sc x with
        | some i => if i ∈ cf.lin ∧ (ps.line, ps.col) ∉ cf.tru then some (.lidx i cb) else (cE cf N n sc a).map fun ca => .idx ca cb
        | none => (cE cf N n sc a).map fun ca => .idx ca cb)
      | a => (cE cf N n sc a).map fun ca => .idx ca cb)
    | .Tuple es _ _ => (cEsF (cE cf N n sc) es).map .tup
    | .List es p => (cEsF (cE cf N n sc) es).map fun cs => if (p.line, p.col) ∈ cf.ml then .mlst cs else .lst cs
    | .Call (.Name f _) (a :: es) [] pc => if glB sc f = true then (match lamOf a with
      | some (s, b) => (match es with
        | [] => (match cf.err with
          | some (x, nms) => if (cf.lam && decide (x = f) && LamX.lamSB sc s) = true then (cE cf.nolam N n s b).map (.err nms) else none
          | none => none)
        | _ => none)
      | none => (match cf.fns.lookup f with
        | some (k, F) => if es.length + 1 = k then (cEsF (cE cf N n sc) (a :: es)).map fun cs => .call F cs else none
        | none => (match rngOf cf sc f a es with
          | some b => (cE cf N n sc b).map .lrng
          | none => (match dcpOf N sc f a es with
            | some (i, io) => some (.dcp i (.var io))
            | none => if f = "list" ∧ (pc.line, pc.col) ∈ cf.ml ∧ es = [] then (cE cf N n sc a).map .mcp else (biOf f).bind fun g => (cEsF (cE cf N n sc) (a :: es)).map fun cs => .bi g cs)))) else (match slotOf N sc f with
      | some i => (cEsF (cE cf N n sc) (a :: es)).map fun cs => .dyn i cf.fns cs
      | none => none)
    | .Call (.Attribute o m ap) [] [] cp => if callB o = false ∧ (ap.endLine == cp.line) = true then (me0 m).bind fun f => (cE cf N n sc o).map fun co => .meth f co .nil else none
    | .Call (.Attribute o m ap) [e] [] cp => if callB o = false ∧ (ap.endLine == cp.line) = true then (me1 m).bind fun f => (cE cf N n sc o).bind fun co => (cE cf N n sc e).map fun ce => .meth f co (.cons ce .nil) else none
    | .Call (.Attribute o m ap) [e, e2] [] cp => if callB o = false ∧ (ap.endLine == cp.line) = true ∧ m = "get" then (cE cf N n sc o).bind fun co => (cE cf N n sc e).bind fun ce => (cE cf N n sc e2).map fun ce2 => .dget co ce ce2 else none
    | .ListComp elt [⟨tg, iter, ifs, 0⟩] sc2 _ => if blkC N sc sc2 (ownOf N sc2) = true then (cTg N sc2 tg).bind fun ct => if ct.slots.all (fun i => decide (i ∈ (ownOf N sc2).map (·.2))) = true then (cIt (cE cf N n sc) sc cf tg iter).bind fun ci => (cIf (cE cf.nolam N n (relS sc2 sc)) ifs).bind fun cc => (cE cf.nolam N n (relS sc2 sc) elt).map fun ce => .comp ce ct ci cc ((ownOf N sc2).map (·.2)) else none else none
    | .ListComp elt [⟨tg, iter, ifs, 0⟩, ⟨tg1, iter1, ifs1, 0⟩] sc2 _ => if blkC N sc sc2 (ownOf N sc2) = true then (cTg N sc2 tg).bind fun ct => (cTg N sc2 tg1).bind fun ct1 =>
      if (ct.slots.all (fun i => decide (i ∈ (ownOf N sc2).map (·.2))) && ct1.slots.all (fun i => decide (i ∈ (ownOf N sc2).map (·.2)))) = true then
        (cIt (cE cf N n sc) sc cf tg iter).bind fun ci => (cIf (cE cf.nolam N n (relS sc2 sc)) ifs).bind fun cc => (cIt (cE cf.nolam N n (relS sc2 sc)) (relS sc2 sc) cf.nolam tg1 iter1).bind fun ci1 => (cIf (cE cf.nolam N n (relS sc2 sc)) ifs1).bind fun cc1 =>
          (cE cf.nolam N n (relS sc2 sc) elt).map fun ce => .compn ce ct ci cc (.cons ct1 ci1 cc1 ct1.slots .nil) ((ownOf N sc2).map (·.2)) else none else none
    | .ListComp elt [⟨tg, iter, ifs, 0⟩, ⟨tg1, iter1, ifs1, 0⟩, ⟨tg2, iter2, ifs2, 0⟩] sc2 _ => if blkC N sc sc2 (ownOf N sc2) = true then (cTg N sc2 tg).bind fun ct => (cTg N sc2 tg1).bind fun ct1 => (cTg N sc2 tg2).bind fun ct2 =>
      if (ct.slots.all (fun i => decide (i ∈ (ownOf N sc2).map (·.2))) && (ct1.slots ++ ct2.slots).all (fun i => decide (i ∈ (ownOf N sc2).map (·.2)))) = true then
        (cIt (cE cf N n sc) sc cf tg iter).bind fun ci => (cIf (cE cf.nolam N n (relS sc2 sc)) ifs).bind fun cc => (cIt (cE cf.nolam N n (relS sc2 sc)) (relS sc2 sc) cf.nolam tg1 iter1).bind fun ci1 => (cIf (cE cf.nolam N n (relS sc2 sc)) ifs1).bind fun cc1 =>
          (cIt (cE cf.nolam N n (relS sc2 sc)) (relS sc2 sc) cf.nolam tg2 iter2).bind fun ci2 => (cIf (cE cf.nolam N n (relS sc2 sc)) ifs2).bind fun cc2 =>
          (cE cf.nolam N n (relS sc2 sc) elt).map fun ce => .compn ce ct ci cc (.cons ct1 ci1 cc1 (ct1.slots ++ ct2.slots) (.cons ct2 ci2 cc2 ct2.slots .nil)) ((ownOf N sc2).map (·.2)) else none else none
    | _ => none
/-- list(range(..)) is read ahead of the rest -/
theorem ixOf_ok {x : Str} : ∀ {N : List Str} {i : Nat}, ixOf x N = some i → N[i]? = some x
  | [], _, h => by simp [ixOf] at h
  | y :: ys, i, h => by
    unfold ixOf at h
    split at h
    · rename_i e
      cases h
      simp only [List.getElem?_cons_zero, Option.some.injEq]
      exact of_decide_eq_true e
    · simp only [Option.map_eq_some_iff] at h
      obtain ⟨j, h1, rfl⟩ := h
      simpa using ixOf_ok h1
/-! ### where one stands -/
abbrev veB : List Value := [.type "ValueError", .type "Exception", .type "BaseException", .type "object"]
structure Cxt (X : Cx) (cf : Cf) (N : List Str) (sc : Scope) (T : TW) (W : WX) (j k : Nat) : Prop where
  hN : X.N = N
  nd : N.Nodup
  hsc : X.env.scope = sc
  calm : X.calm = true
  room : Room k X.A
  jk : j ≤ k
  tk : L2N.Takes X W
  fns : ∀ x a F, cf.fns.lookup x = some (a, F) → ∃ f fd ps, X.mg x = some (.ref f) ∧ PySem.W.keepIn X.K (.ref f) = true ∧ Binds X.K fd ps [] ∧ FnOk X.prog X.w X.K X.mg X.base (L2N.CX X.prog X.w) j f fd ps (spF X.K X.mg T a F)
  cons : ∀ x d, cf.cons.lookup x = some d → ∃ v u, X.mg x = some u ∧ RelV v u ∧ ∀ ι Z H, Rp X.K X.mg ι Z H d v
  bis : ∀ x ∈ biNames, X.mg x = none
  excs : ∀ c ∈ cf.excs, ∃ C, X.mg c = some (.ref C) ∧ PySem.W.excIn X.K C veB "ValueError.__new__" = true ∧ PySem.W.keepIn X.K (.ref C) = true ∧ Raises X (.ref C)
  err : ∀ x nms, cf.err = some (x, nms) → ∃ g pg bg sg fd L cs CE, Mh.ErrD X.K X.mg x pg bg sg g fd L cs CE ∧ ∀ c lbl, nms.lookup c = some lbl → ∀ C, X.mg c = some (.ref C) → Mh.LblE X.K X.mg L cs CE C lbl
  lam : cf.lam = true → j + 2 ≤ k ∧ ∃ c P, X.env.code = .ref c ∧ LamX.TabB X.base X.mg c P ∧ (P, X.env.qual ++ "<lambda>") ∈ T.l ∧ ∀ p ∈ T.l, p.1 = P → p.2 = X.env.qual ++ "<lambda>"
  xcs : ∀ c ∈ cf.xcs, ∃ C, XcD X.prog X.w X.K X.mg X.base 1 c C
  xk : cf.xcs ≠ [] → 2 ≤ k
  tw : T.w = X.w
theorem Cxt.blk {X : Cx} {cf : Cf} {N : List Str} {sc : Scope} {T : TW} {W : WX} {j k : Nat} (C : Cxt X cf N sc T W j k) (scope : Scope) (s : Shared) (H : Hp) (cl : List (Str × Addr)) (a : Addr) (fp : List Addr) :
    Cxt (X.blk s H scope (compEnvC scope cl a X.env) fp) cf.nolam N (relS scope sc) T WF j k :=
  ⟨C.hN, C.nd, by rw [← C.hsc]; rfl, C.calm, C.room, C.jk, takesF, C.fns, C.cons, C.bis, fun c hc => C.excs c hc, C.err, fun z => (by cases z), fun c hc => (by cases hc), fun z => absurd rfl z, C.tw⟩
theorem Cxt.lamN {X : Cx} {cf : Cf} {N : List Str} {sc : Scope} {T : TW} {W : WX} {j k : Nat} (C : Cxt X cf N sc T W j (k + 2)) (hjk : j ≤ k) (scope : Scope) (A : Around) (outer : List Env) (s : Shared) (H : Hp) (E : XK) (f c' : Addr) (hr : Room k (A.deeper (LamX.lamEnv X scope s.heap.objs.size f c'))) :
    Cxt (Mh.lamN X A outer s H E scope f c') cf.nolam N scope T (fun cls d _ H => E cls d H) j k :=
  ⟨C.hN, C.nd, rfl, rfl, hr, hjk, Mh.lamN_takes, C.fns, C.cons, C.bis, fun c hc => C.excs c hc, C.err, fun z => (by cases z), fun c hc => (by cases hc), fun z => absurd rfl z, C.tw⟩
theorem slot_of {N : List Str} {sc : Scope} {x : Str} {i : Nat} (h : slotOf N sc x = some i) : Vis sc x ∧ N[i]? = some x ∧ (x == ("__debug__" : Str)) = false ∧ (x == ("__classdict__" : Str)) = false := by
  unfold slotOf at h
  split at h
  · rename_i e
    simp only [Bool.and_eq_true, Bool.not_eq_true'] at e
    exact ⟨vis_of e.1.1, ixOf_ok h, e.1.2, e.2⟩
  · cases h
def isStar : Expr → Bool
  | .Starred .. => true
  | _ => false
theorem star1 {e : Expr} {es : List Expr} {env : Env} (h : isStar e = false) : starEach (e :: es) env = (false, eval e env) :: starEach es env := by
  cases e <;> first | rfl | (simp [isStar] at h)
theorem back0 {pos : Pos} {env : Env} : ∀ {es : List Expr}, es.all (fun e => !isStar e) = true → (backTo pos (starEach es env)).any (·.1) = false
  | [], _ => rfl
  | e :: es, h => by
    simp only [List.all_cons, Bool.and_eq_true, Bool.not_eq_true'] at h
    rw [star1 h.1]
    have := back0 (pos := pos) (env := env) h.2
    unfold backTo at this ⊢
    simp only [List.map_cons, List.any_cons, this, Bool.or_false]
theorem cE_star {cf : Cf} {N : List Str} {n : Nat} {sc : Scope} {e : Expr} {c : E} (h : cE cf N n sc e = some c) : isStar e = false := by
  cases n with
  | zero => simp [cE] at h
  | succ n => cases e <;> first | rfl | (simp [cE] at h)
theorem cEs_star {cf : Cf} {N : List Str} {n : Nat} {sc : Scope} : ∀ {es : List Expr} {cs : Es}, cEsF (cE cf N n sc) es = some cs → es.all (fun e => !isStar e) = true
  | [], _, _ => rfl
  | e :: es, cs, h => by
    unfold cEsF at h
    simp only [Option.bind_eq_some_iff, Option.map_eq_some_iff] at h
    obtain ⟨c, h1, cs', h2, rfl⟩ := h
    simp only [List.all_cons, Bool.and_eq_true, Bool.not_eq_true']
    exact ⟨cE_star h1, cEs_star h2⟩
theorem cEs_len {f : Expr → Option E} : ∀ {es : List Expr} {cs : Es}, cEsF f es = some cs → ∀ δ μ xs μ', evs cs δ μ = some (.ok xs, μ') → xs.length = es.length
  | [], cs, h, δ, μ, xs, μ', hx => by
    simp only [cEsF, Option.some.injEq] at h
    subst h
    simp only [evs, retR, Option.some.injEq, Prod.mk.injEq, Except.ok.injEq] at hx
    rw [← hx.1]; rfl
  | e :: es, cs, h, δ, μ, xs, μ', hx => by
    unfold cEsF at h
    simp only [Option.bind_eq_some_iff, Option.map_eq_some_iff] at h
    obtain ⟨c, h1, cs', h2, rfl⟩ := h
    simp only [evs] at hx
    match hq : ev c δ μ, hx with
    | some (.ok d, μ1), hx =>
      simp only [bindR] at hx
      match hr : evs cs' δ μ1, hx with
      | some (.ok ds, μ2), hx =>
        simp only [retR, Option.some.injEq, Prod.mk.injEq, Except.ok.injEq] at hx
        rw [← hx.1, List.length_cons, List.length_cons, cEs_len h2 _ _ _ _ hr]
theorem bi_ok {X : Cx} {T : TW} (hc : X.calm = true) {x : Str} {f : Bi} (h : biOf x = some f) : x ∈ biNames ∧ ((∃ id, bootBuiltins x = some (.builtin id) ∧ CallR X (.builtin id) (rb X.K X.mg T f)) ∨ ∃ id, bootBuiltins x = some (.type id) ∧ CallR X (.type id) (rb X.K X.mg T f)) := by
  unfold biOf at h
  repeat (split at h; · (cases h; rename_i e; have e := of_decide_eq_true e; subst e; refine ⟨by decide +kernel, ?_⟩; first
    | exact .inl ⟨_, by decide +kernel, cb_len⟩ | exact .inl ⟨_, by decide +kernel, cb_abs⟩ | exact .inr ⟨_, by decide +kernel, cb_int⟩ | exact .inr ⟨_, by decide +kernel, cb_str⟩ | exact .inl ⟨_, by decide +kernel, cb_min hc⟩
    | exact .inl ⟨_, by decide +kernel, cb_max hc⟩ | exact .inl ⟨_, by decide +kernel, cb_sum hc⟩ | exact .inr ⟨_, by decide +kernel, cb_list hc⟩ | exact .inr ⟨_, by decide +kernel, cb_tuple⟩ | exact .inl ⟨_, by decide +kernel, cb_isi⟩
    | exact .inr ⟨_, by decide +kernel, cb_bool⟩))
  cases h
/-! ### targets, what is walked -/
section
variable {X : Cx} {cf : Cf} {N : List Str} {sc : Scope} {T : TW} {W : WX} {j k : Nat}
theorem tg1 (hN : X.N = N) (nd : N.Nodup) {sw : Scope} (L : LocOk X sw) {x : Str} {i : Nat} {pos : Pos} (h : locB sw x = true) (hi : ixOf x N = some i) : PG X (.Name x pos) (gT X.K X.mg T (.name i)) :=
  mg_name (by rw [hN]; exact nd) (by rw [hN]; exact ixOf_ok hi) (L x h).1 (L x h).2
theorem nms_ok (hN : X.N = N) (nd : N.Nodup) {sw : Scope} (L : LocOk X sw) : ∀ {es : List Expr} {is : List Nat}, nmsOf N sw es = some is → es.all isNm = true ∧ Paired (fun e i => PG X e (gT X.K X.mg T (.name i))) es is
  | [], is, h => by cases h; exact ⟨rfl, .nil⟩
  | e :: es, is, h => by
    cases e with
    | Name x p =>
      unfold nmsOf at h
      split at h
      · rename_i hx
        simp only [Option.bind_eq_some_iff, Option.map_eq_some_iff] at h
        obtain ⟨i, hi, is', h1, rfl⟩ := h
        obtain ⟨q1, q2⟩ := nms_ok hN nd L h1
        exact ⟨q1, .cons (tg1 hN nd L hx hi) q2⟩
      · cases h
    | _ => cases h
theorem tg_ok (hN : X.N = N) (nd : N.Nodup) (hc : X.calm = true) {sw : Scope} (L : LocOk X sw) {e : Expr} {ct : Tg} (h : cTg N sw e = some ct) : PG X e (gT X.K X.mg T ct) := by
  unfold cTg at h
  split at h
  · split at h
    · rename_i hx
      simp only [Option.map_eq_some_iff] at h
      obtain ⟨i, hi, rfl⟩ := h
      exact tg1 hN nd L hx hi
    · cases h
  · split at h
    · rename_i hx
      simp only [Bool.and_eq_true] at hx
      simp only [Option.bind_eq_some_iff, Option.map_eq_some_iff] at h
      obtain ⟨i, hi, j, hj, rfl⟩ := h
      exact mg_pair hc (tg1 hN nd L hx.1 hi) (tg1 hN nd L hx.2 hj) rfl rfl rfl rfl
    · cases h
  · split at h
    · rename_i hx
      simp only [Bool.and_eq_true] at hx
      simp only [Option.bind_eq_some_iff, Option.map_eq_some_iff] at h
      obtain ⟨i, hi, j, hj, l, hl, rfl⟩ := h
      exact mg_pair hc (tg1 hN nd L hx.1.1 hi) (mg_pair hc (tg1 hN nd L hx.1.2 hj) (tg1 hN nd L hx.2 hl) rfl rfl rfl rfl) rfl rfl rfl rfl
    · cases h
  · split at h
    · rename_i hx
      simp only [Bool.and_eq_true] at hx
      simp only [Option.bind_eq_some_iff, Option.map_eq_some_iff] at h
      obtain ⟨i, hi, j, hj, l, hl, rfl⟩ := h
      exact mg_trip hc (tg1 hN nd L hx.1.1 hi) (tg1 hN nd L hx.1.2 hj) (tg1 hN nd L hx.2 hl) rfl rfl rfl rfl rfl
    · cases h
  · simp only [Option.map_eq_some_iff] at h
    obtain ⟨is, h1, rfl⟩ := h
    obtain ⟨q1, q2⟩ := nms_ok (T := T) hN nd L h1
    exact mg_many hc q1 q2
  · cases h
theorem pa_ok {f : Expr → Option E} (hs : ∀ e c, f e = some c → isStar e = false) (ih : ∀ e c, f e = some c → PE X e (tE X.K X.mg T W c)) : ∀ {es : List Expr} {cs : Es}, cEsF f es = some cs → PA X es (tEs X.K X.mg T W cs)
  | [], cs, h => by
    simp only [cEsF, Option.some.injEq] at h
    subst h
    exact m_nil
  | e :: es, cs, h => by
    unfold cEsF at h
    simp only [Option.bind_eq_some_iff, Option.map_eq_some_iff] at h
    obtain ⟨c, h1, cs', h2, rfl⟩ := h
    exact m_cons (ih _ _ h1) (pa_ok hs ih h2) (star1 (hs _ _ h1))
theorem gl_X (C : Cxt X cf N sc T W j k) {x : Str} (h : glB sc x = true) : Gl X x := by
  have := (gl_of h).1
  rw [← C.hsc] at this
  exact this
theorem fold_ok {f : Expr → Option E} {tg e : Expr} {ci : It} (h : cIt f sc cf tg e = some ci) (env : Env) (x : Value) : foldedSetIterable e env x = pure x := by
  unfold cIt at h
  split at h
  · cases h
  · rename_i hset
    cases e <;> first | rfl | (simp [isSet] at hset)
theorem trees2 {k x : Expr} {cp : Pos} {env : Env} (h1 : isStar k = false) (h2 : isStar x = false) : backTo cp (starEach [k, x] env) = [(false, eval k env), (false, eval x env)] := by
  rw [star1 h1, star1 h2]; rfl
theorem it_ok (C : Cxt X cf N sc T W j k) {f : Expr → Option E} (hs : ∀ e c, f e = some c → isStar e = false) (ih : ∀ e c, f e = some c → PE X e (tE X.K X.mg T W c)) {tg e : Expr} {ci : It} (h : cIt f sc cf tg e = some ci) :
    PI X tg e (tI X.K X.mg T W ci) ∧ ∀ x, foldedSetIterable e X.env x = pure x := by
  unfold cIt at h
  split at h
  · cases h
  · rename_i hset
    have hfold : ∀ x, foldedSetIterable e X.env x = pure x := by
      intro x
      cases e <;> first | rfl | (simp [isSet] at hset)
    have seq : ∀ {ci}, (f e).map It.seq = some ci → PI X tg e (tI X.K X.mg T W ci) := fun {ci} h => by
      simp only [Option.map_eq_some_iff] at h
      obtain ⟨c, h1, rfl⟩ := h
      exact mi_seq (ih _ _ h1)
    refine ⟨?_, hfold⟩
    split at h
    · split at h
      · rename_i hg
        split at h
        · rename_i e1
          have e1 := of_decide_eq_true e1
          subst e1
          simp only [Option.map_eq_some_iff] at h
          obtain ⟨c, h1, rfl⟩ := h
          exact mi_rng (gl_X C hg.1) (C.bis _ (by decide +kernel)) (m_cons (ih _ _ h1) m_nil (star1 (hs _ _ h1))) (star1 (hs _ _ h1))
        · split at h
          · rename_i e1
            have e1 := of_decide_eq_true e1
            subst e1
            split at h
            · rename_i htg
              simp only [Option.map_eq_some_iff] at h
              obtain ⟨c, h1, rfl⟩ := h
              cases tg <;> first | (simp [isTup] at htg; done) | exact mi_enum (gl_X C hg.1) (C.bis _ (by decide +kernel)) (m_cons (ih _ _ h1) m_nil (star1 (hs _ _ h1))) (star1 (hs _ _ h1))
            · cases h
          · exact seq h
      · exact seq h
    · split at h
      · rename_i hg
        split at h
        · rename_i e1
          have e1 := of_decide_eq_true e1
          subst e1
          simp only [Option.bind_eq_some_iff, Option.map_eq_some_iff] at h
          obtain ⟨c, h1, c2, h2, rfl⟩ := h
          exact mi_rng2 (gl_X C hg.1) (C.bis _ (by decide +kernel)) (m_cons (ih _ _ h1) (m_cons (ih _ _ h2) m_nil (star1 (hs _ _ h2))) (star1 (hs _ _ h1))) (by rw [star1 (hs _ _ h1), star1 (hs _ _ h2)]; rfl) (star1 (hs _ _ h2))
        · split at h
          · rename_i e1
            have e1 := of_decide_eq_true e1
            subst e1
            split at h
            · rename_i htg
              simp only [Option.bind_eq_some_iff, Option.map_eq_some_iff] at h
              obtain ⟨c, h1, c2, h2, rfl⟩ := h
              cases tg <;> first | (simp [isTup] at htg; done) | exact mi_zip (gl_X C hg.1) (C.bis _ (by decide +kernel)) (m_cons (ih _ _ h1) (m_cons (ih _ _ h2) m_nil (star1 (hs _ _ h2))) (star1 (hs _ _ h1))) (star1 (hs _ _ h1)) (back0 (by simp [hs _ _ h2]))
            · cases h
          · exact seq h
      · exact seq h
    · exact seq h
end
end Mi
set_option Elab.async false
set_option linter.all false
set_option maxRecDepth 100000
set_option maxHeartbeats 4000000
/-! Me: what is read off an expression is right. -/
namespace Mi
open PySem PySem.Spec PyProof.Rows L2 RZ
section
variable {N : List Str} {T : TW} {k : Nat}
theorem ok_op {X : Cx} {T : TW} {op : Operator} {o : Op} (h : opOf op = some o) : OpR X (binaryOp op) (r2 X.K X.mg T o) := by
  cases op <;> simp only [opOf, Option.some.injEq] at h <;> first | (subst h; first | exact ok_add | exact ok_sub | exact ok_mul | exact ok_mod | exact ok_pow | exact ok_fdiv) | cases h
theorem ok_cmop {X : Cx} {T : TW} (hw : T.w = X.w) (hr : Room k X.A) (op : CmpOp) : OpR X (compareOp op) (r2 X.K X.mg T (cmOf op)) := by
  have hu := hr.un
  have h1 : X.A.units + 65 < cLine := by omega
  cases op with
  | Eq => exact ok_eq (by omega)
  | NotEq => exact ok_ne (by omega)
  | Lt => exact ok_cm .lt (by omega)
  | LtE => exact ok_cm .le (by omega)
  | Gt => exact ok_cm .gt (by omega)
  | GtE => exact ok_cm .ge (by omega)
  | Is => exact ok_is
  | IsNot => exact ok_isn
  | In => exact ok_in hw h1
  | NotIn => exact ok_nin hw h1
theorem bo_ok {X : Cx} {W : WX} {f : Expr → Option E} (ih : ∀ e c, f e = some c → PE X e (tE X.K X.mg T W c) ∧ (isIf e = false → PT X e (tT X.K X.mg T W c))) {op : BoolOp} : ∀ {vs : List Expr} {pos : Pos} {c : E}, cBo f op vs = some c → vs.any isIf = false → PE X (.BoolOp op vs pos) (tE X.K X.mg T W c) ∧ PW X (.BoolOp op vs pos) (tT X.K X.mg T W c)
  | [], _, _, h, _ => by simp [cBo] at h
  | [a], pos, c, h, hv => by
    simp only [List.any_cons, List.any_nil, Bool.or_false] at hv
    obtain ⟨h1, h2⟩ := ih _ _ (show f a = some c from h)
    cases op with
    | And => exact ⟨pe_one h1, m_andT1 (h2 hv)⟩
    | Or => exact ⟨pe_one h1, m_orT1 (h2 hv)⟩
  | a :: b :: r, pos, c, h, hv => by
    unfold cBo at h
    simp only [Option.bind_eq_some_iff, Option.map_eq_some_iff] at h
    obtain ⟨ca, h1, cr, h2, rfl⟩ := h
    rw [List.any_cons, Bool.or_eq_false_iff] at hv
    obtain ⟨p1, p2⟩ := ih _ _ h1
    obtain ⟨q1, q2⟩ := bo_ok ih (pos := pos) h2 hv.2
    cases op with
    | And => exact ⟨m_andV p1 q1, m_andT (p2 hv.1) q2⟩
    | Or => exact ⟨m_orV p1 q1, m_orT (p2 hv.1) q2⟩
theorem o_ok {X : Cx} {W : WX} {f : Expr → Option E} (ih : ∀ e c, f e = some c → PE X e (tE X.K X.mg T W c)) : ∀ {o : Option Expr} {c : Eo}, cO f o = some c → PO X o (tR X.K X.mg T W (fun _ _ _ (a b : Option Int) => a = b) (evo c))
  | none, c, h => by
    simp only [cO, Option.some.injEq] at h
    subst h
    exact m_no
  | some e, c, h => by
    simp only [cO, Option.map_eq_some_iff] at h
    obtain ⟨c, h1, rfl⟩ := h
    exact m_yes (ih _ _ h1)
theorem plainIx {b : Expr} (h : isSl b = false) : PlainIx b := by
  intro o i
  cases b <;> first | rfl | (simp [isSl] at h)
theorem boot_ty {x : Str} {t : String} (h : tyOf x = some t) : x ∈ biNames ∧ bootBuiltins x = some (.type t) := by
  unfold tyOf at h
  repeat (split at h; · (cases h; rename_i e; have e := of_decide_eq_true e; subst e; exact ⟨by decide +kernel, by decide +kernel⟩))
  cases h
theorem if_ok {X : Cx} {W : WX} {f : Expr → Option E} (ih : ∀ e c, f e = some c → PE X e (tE X.K X.mg T W c) ∧ (isIf e = false → PT X e (tT X.K X.mg T W c))) : ∀ {ifs : List Expr} {c : E}, cIf f ifs = some c → PTs X ifs (tT X.K X.mg T W c)
  | [], c, h => by
    simp only [cIf, Option.some.injEq] at h
    subst h
    refine ⟨fun pins s σ H Q I hh => pts_nil.run pins s σ H Q I ?_⟩
    obtain ⟨ι, Z, Zf, μ, δ, g, sr, hp⟩ := hh
    simp only [evT, ev] at hp
    exact post.ret (a := true) (b := true) hp g rfl
  | [e], c, h => by
    simp only [cIf] at h
    split at h
    · cases h
    · rename_i hi
      exact pts_one ((ih _ _ h).2 (by simpa using hi))
  | _ :: _ :: _, c, h => by simp [cIf] at h
theorem val_T {X : Cx} {W : WX} {e : Expr} {c : E} (h : PE X e (tE X.K X.mg T W c)) (hs : (match e with
  | .UnaryOp .Not _ _ => true
  | .BoolOp .. => true
  | .IfExp .. => true
  | .Compare .. => true
  | _ => false) = false) : PT X e (tT X.K X.mg T W c) := by
  refine m_val h fun whole => ?_
  cases e with
  | UnaryOp op a p => cases op <;> first | rfl | (simp at hs)
  | BoolOp _ _ _ => simp at hs
  | IfExp _ _ _ _ => simp at hs
  | Compare _ _ _ _ => simp at hs
  | _ => rfl
theorem me0_ok {X : Cx} {T : TW} {m : Str} {f : Bi} (h : me0 m = some f) : ∃ id, Slot "str" m id ∧ typeOf (.builtin id) = pure (.type "method_descriptor") ∧ MtR X id (rM X.K X.mg T f) := by
  unfold me0 at h
  split at h <;> cases h
  rename_i e; subst e
  exact ⟨_, F.slot_str_upper, F.type_str_upper, mb_upper⟩
theorem me1_ok {X : Cx} {T : TW} {m : Str} {f : Bi} (h : me1 m = some f) : ∃ id, Slot "str" m id ∧ typeOf (.builtin id) = pure (.type "method_descriptor") ∧ MtR X id (rM X.K X.mg T f) := by
  unfold me1 at h
  split at h
  · cases h
    rename_i e; subst e
    exact ⟨_, F.slot_str_split, F.type_str_split, mb_split⟩
  · split at h <;> cases h
    rename_i e; subst e
    exact ⟨_, F.slot_str_join, F.type_str_join, mb_join⟩
theorem base_ok {o : Expr} {m : Str} {env : Env} (h : callB o = false) : attributeBase o m env (eval o env) = eval o env := by
  unfold attributeBase
  split
  · simp [callB] at h
  · rfl
theorem mrepOf_inv {cf : Cf} {a x : Expr} {op : Operator} (h : mrepOf cf a op = some x) : ∃ p, a = .List [x] p ∧ op = .Mult := by
  unfold mrepOf at h
  split at h
  · split at h
    · cases h; exact ⟨_, rfl, rfl⟩
    · cases h
  · cases h
theorem keysOf_all : ∀ {keys : List (Option Expr)} {ks : List Str}, keysOf keys = some ks → keys.all (·.isSome) = true
  | [], _, _ => rfl
  | k :: keys, ks, h => by
    unfold keysOf at h
    split at h
    · rename_i z; cases z
    · rename_i z
      cases z
      simp only [Option.map_eq_some_iff] at h
      obtain ⟨r, h1, rfl⟩ := h
      simp [keysOf_all h1]
    · cases h
theorem keysOf_len : ∀ {keys : List (Option Expr)} {ks : List Str}, keysOf keys = some ks → ks.length = keys.length
  | [], ks, h => by simp only [keysOf, Option.some.injEq] at h; subst h; rfl
  | k :: keys, ks, h => by
    unfold keysOf at h
    split at h
    · rename_i z; cases z
    · rename_i z
      cases z
      simp only [Option.map_eq_some_iff] at h
      obtain ⟨r, h1, rfl⟩ := h
      simp [keysOf_len h1]
    · cases h
theorem cEsF_len {f : Expr → Option E} : ∀ {es : List Expr} {cs : Es}, cEsF f es = some cs → lenE cs = es.length
  | [], cs, h => by simp only [cEsF, Option.some.injEq] at h; subst h; rfl
  | e :: es, cs, h => by
    unfold cEsF at h
    simp only [Option.bind_eq_some_iff, Option.map_eq_some_iff] at h
    obtain ⟨c, h1, cs', h2, rfl⟩ := h
    simp [lenE, cEsF_len h2]
theorem pps_ok {X : Cx} {W : WX} {f : Expr → Option E} (ih : ∀ e c, f e = some c → PE X e (tE X.K X.mg T W c)) {pos : Pos} : ∀ {keys : List (Option Expr)} {ks : List Str} {values : List Expr} {cs : Es}, keys.length = values.length → keysOf keys = some ks → cEsF f values = some cs → PPs X pos keys values (trsOf X.K X.mg T W ks cs)
  | [], ks, [], cs, _, h, h2 => by
    simp only [keysOf, Option.some.injEq] at h
    simp only [cEsF, Option.some.injEq] at h2
    subst h h2
    exact pps_nil
  | k :: keys, ks, v :: values, cs, hl, h, h2 => by
    unfold keysOf at h
    unfold cEsF at h2
    simp only [Option.bind_eq_some_iff, Option.map_eq_some_iff] at h2
    obtain ⟨c, h3, cs', h4, rfl⟩ := h2
    split at h
    · rename_i z; cases z
    · rename_i z
      cases z
      simp only [Option.map_eq_some_iff] at h
      obtain ⟨r, h1, rfl⟩ := h
      exact pps_cons pe_str (ih _ _ h3) (pps_ok ih (by simpa using hl) h1 h4)
    · cases h
  | [], ks, v :: values, cs, hl, h, h2 => by simp at hl
  | k :: keys, ks, [], cs, hl, h, h2 => by simp at hl
theorem rngOf_inv {cf : Cf} {sc : Scope} {f : Str} {a b : Expr} {es : List Expr} (h : rngOf cf sc f a es = some b) : ∃ p2 p3, f = "list" ∧ a = .Call (.Name "range" p2) [b] [] p3 ∧ es = [] ∧ glB sc "range" = true := by
  unfold rngOf at h
  split at h
  · split at h
    · rename_i hq
      obtain ⟨rfl, rfl, h3, h4⟩ := hq
      cases h
      exact ⟨_, _, rfl, rfl, rfl, h3⟩
    · cases h
  · cases h
theorem dcpOf_inv {sc : Scope} {f : Str} {a : Expr} {es : List Expr} {i io : Nat} (h : dcpOf N sc f a es = some (i, io)) : ∃ x px1 po1 px2 ps1 kt pt1 px3 po2 sc2 pl o, f = "dict" ∧ es = [] ∧ a = .ListComp (.Tuple [.Name x px1, .Subscript (.Name o po1) (.Name x px2) ps1] kt pt1) [⟨.Name x px3, .Name o po2, [], 0⟩] sc2 pl ∧
    glB sc "dict" = true ∧ blkC N sc sc2 (ownOf N sc2) = true ∧ visB sc o = true ∧ visB (relS sc2 sc) o = true ∧ visB (relS sc2 sc) x = true ∧ locB sc2 x = true ∧ (o == ("__debug__" : Str)) = false ∧ (o == ("__classdict__" : Str)) = false ∧ (x == ("__debug__" : Str)) = false ∧ (x == ("__classdict__" : Str)) = false ∧
    ixOf x N = some i ∧ ixOf o N = some io ∧ i ∈ (ownOf N sc2).map (·.2) ∧ io ∉ (ownOf N sc2).map (·.2) := by
  unfold dcpOf at h
  split at h
  · split at h
    · rename_i hq
      simp only [Bool.and_eq_true, decide_eq_true_eq, Bool.not_eq_true'] at hq
      obtain ⟨⟨⟨⟨⟨⟨⟨⟨⟨⟨⟨⟨⟨q1, q2⟩, q3⟩, q4⟩, q5⟩, q6⟩, q7⟩, q8⟩, q9⟩, q10⟩, q11⟩, q12⟩, q13⟩, q14⟩ := hq
      subst q1 q2 q3 q4
      simp only [Option.bind_eq_some_iff] at h
      obtain ⟨i', h1, io', h2, h3⟩ := h
      split at h3
      · rename_i hm
        cases h3
        exact ⟨_, _, _, _, _, _, _, _, _, _, _, _, rfl, rfl, rfl, q5, q6, q7, q8, q9, q10, q11, q12, q13, q14, h1, h2, hm.1, hm.2⟩
      · cases h3
    · cases h
  · cases h
theorem lamOf_inv {a b : Expr} {s : Scope} (h : lamOf a = some (s, b)) : ∃ p, a = .Lambda ⟨[], [], none, [], [], none, []⟩ b s p := by
  unfold lamOf at h
  split at h
  · cases h; exact ⟨_, rfl⟩
  · cases h
theorem e_ok : ∀ (n : Nat) (cf : Cf) (sc : Scope) (e : Expr) (c : E), cE cf N n sc e = some c → ∀ (X : Cx) (W : WX) (j k : Nat), Cxt X cf N sc T W j k → PE X e (tE X.K X.mg T W c) ∧ (isIf e = false → PT X e (tT X.K X.mg T W c)) := by
  intro n
  induction n with
  | zero => intro cf sc e c h; simp [cE] at h
  | succ n ih =>
    intro cf sc e c h X W j k C
    have ihE : ∀ e c, cE cf N n sc e = some c → PE X e (tE X.K X.mg T W c) := fun e c h => (ih cf sc e c h X W j k C).1
    have ihB : ∀ e c, cE cf N n sc e = some c → PE X e (tE X.K X.mg T W c) ∧ (isIf e = false → PT X e (tT X.K X.mg T W c)) := fun e c h => ih cf sc e c h X W j k C
    unfold cE at h
    split at h
    · -- Name
      rename_i x pos
      have hPE : PE X (.Name x pos) (tE X.K X.mg T W c) := by
        split at h
        · rename_i i hi
          cases h
          obtain ⟨h1, h2, h3, h4⟩ := slot_of hi
          exact m_var (by rw [C.hN]; exact h2) (by rw [C.hsc]; exact h1) h3 h4
        · split at h
          · rename_i hg
            split at h
            · rename_i d hd
              cases h
              obtain ⟨v, u, h1, h2, h3⟩ := C.cons _ _ hd
              exact m_glob (gl_X C hg) h1 h2 h3 (gl_of hg).2.1
            · split at h
              · rename_i hf
                cases h
                obtain ⟨⟨a, F⟩, hf⟩ := Option.isSome_iff_exists.mp hf
                obtain ⟨f, fd, ps, hm, hk, hb, FO⟩ := C.fns _ _ _ hf
                exact m_glob (v := .ref f) (gl_X C hg) hm rfl (fun ι Z H => ⟨f, hm, rfl⟩) (gl_of hg).2.1
              simp only [Option.map_eq_some_iff] at h
              obtain ⟨t, h1, rfl⟩ := h
              obtain ⟨h2, h3⟩ := boot_ty h1
              exact m_blt (gl_X C hg) (C.bis _ h2) h3 (gl_of hg).2.2 (gl_of hg).2.1
          · cases h
      exact ⟨hPE, fun _ => val_T hPE rfl⟩
    · cases h; exact ⟨m_int, fun _ => val_T m_int rfl⟩
    · cases h; exact ⟨m_bl, fun _ => val_T m_bl rfl⟩
    · cases h; exact ⟨m_str, fun _ => val_T m_str rfl⟩
    · cases h; exact ⟨m_non, fun _ => val_T m_non rfl⟩
    · -- BinOp
      split at h
      · rename_i x hx
        obtain ⟨lp, rfl, rfl⟩ := mrepOf_inv hx
        simp only [Option.bind_eq_some_iff, Option.map_eq_some_iff] at h
        obtain ⟨cx, h1, cb, h2, rfl⟩ := h
        exact ⟨m_mrep (ihE _ _ h1) (ihE _ _ h2) (star1 (cE_star h1)), fun _ => val_T (m_mrep (ihE _ _ h1) (ihE _ _ h2) (star1 (cE_star h1))) rfl⟩
      · simp only [Option.bind_eq_some_iff, Option.map_eq_some_iff] at h
        obtain ⟨o, h1, ca, h2, cb, h3, rfl⟩ := h
        have := m_op (pos := ‹Pos›) (ok_op (X := X) (T := T) h1) (ihE _ _ h2) (ihE _ _ h3)
        exact ⟨this, fun _ => val_T this rfl⟩
    · cases h; exact ⟨m_dnew C.tw, fun _ => val_T (m_dnew C.tw) rfl⟩
    · -- dict
      split at h
      · rename_i hq
        simp only [Option.bind_eq_some_iff, Option.map_eq_some_iff] at h
        obtain ⟨ks, h1, cs, h2, rfl⟩ := h
        have hPE := m_dct (pos := ‹Pos›) (pps_ok ihE hq.1 h1 h2) (keysOf_all h1) hq.1 hq.2.2 hq.2.1 (by rw [keysOf_len h1, hq.1, cEsF_len h2])
        exact ⟨hPE, fun _ => val_T hPE rfl⟩
      · cases h
    · simp only [Option.map_eq_some_iff] at h
      obtain ⟨ca, h1, rfl⟩ := h
      have := m_neg (pos := ‹Pos›) (ihE _ _ h1)
      exact ⟨this, fun _ => val_T this rfl⟩
    · -- not of a name
      split at h
      · simp only [Option.map_eq_some_iff] at h
        obtain ⟨ca, h1, rfl⟩ := h
        exact ⟨m_nott (ihE _ _ h1), fun _ => m_nottT (ihE _ _ h1)⟩
      · simp only [Option.map_eq_some_iff] at h
        obtain ⟨ca, h1, rfl⟩ := h
        exact ⟨m_notV (ihE _ _ h1), fun _ => m_notT ((ihB _ _ h1).2 rfl)⟩
    · split at h
      · cases h
      · rename_i hi
        simp only [Option.map_eq_some_iff] at h
        obtain ⟨ca, h1, rfl⟩ := h
        exact ⟨m_notV (ihE _ _ h1), fun _ => m_notT ((ihB _ _ h1).2 (by simpa using hi))⟩
    · split at h
      · cases h
      · rename_i hi
        obtain ⟨p, q⟩ := bo_ok ihB (pos := ‹Pos›) h (by simpa using hi)
        exact ⟨p, fun _ => q.pt⟩
    · split at h
      · cases h
      · rename_i hm
        simp only [Option.bind_eq_some_iff, Option.map_eq_some_iff] at h
        obtain ⟨ca, h2, cb, h3, rfl⟩ := h
        have hm' := Bool.eq_false_iff.mpr hm
        exact ⟨m_cmp (ok_cmop C.tw C.room _) (ihE _ _ h2) (ihE _ _ h3) hm', fun _ => m_cmpT (ok_cmop C.tw C.room _) (ihE _ _ h2) (ihE _ _ h3) hm'⟩
    · split at h
      · cases h
      · rename_i hm
        simp only [Option.bind_eq_some_iff, Option.map_eq_some_iff] at h
        obtain ⟨ca, h2, cb, h3, cc, h4, rfl⟩ := h
        have hm' := Bool.eq_false_iff.mpr hm
        exact ⟨m_chain (ok_cmop C.tw C.room _) (ok_cmop C.tw C.room _) (ihE _ _ h2) (ihE _ _ h3) (ihE _ _ h4) hm', fun _ => m_chainT (ok_cmop C.tw C.room _) (ok_cmop C.tw C.room _) (ihE _ _ h2) (ihE _ _ h3) (ihE _ _ h4) hm'⟩
    · split at h
      · cases h
      · rename_i hi
        simp only [Option.bind_eq_some_iff, Option.map_eq_some_iff] at h
        obtain ⟨cc, h2, ca, h3, cb, h4, rfl⟩ := h
        exact ⟨m_ite ((ihB _ _ h2).2 (by simpa using hi)) (ihE _ _ h3) (ihE _ _ h4), fun z => by simp [isIf] at z⟩
    · -- slice
      simp only [Option.bind_eq_some_iff, Option.map_eq_some_iff] at h
      obtain ⟨ca, h2, cl, h3, ch, h4, rfl⟩ := h
      exact ⟨m_slc (ihE _ _ h2) (o_ok ihE h3) (o_ok ihE h4), fun _ => val_T (m_slc (ihE _ _ h2) (o_ok ihE h3) (o_ok ihE h4)) rfl⟩
    · -- from the end
      simp only [Option.map_eq_some_iff] at h
      obtain ⟨ca, h1, rfl⟩ := h
      exact ⟨m_rev (ihE _ _ h1), fun _ => val_T (m_rev (ihE _ _ h1)) rfl⟩
    · -- item
      rename_i a b pos hne hne2
      have hPE : PE X (.Subscript a b pos) (tE X.K X.mg T W c) := by
        split at h
        · cases h
        · rename_i hs
          have hs := plainIx (Bool.eq_false_iff.mpr hs)
          simp only [Option.bind_eq_some_iff] at h
          obtain ⟨cb, h2, h⟩ := h
          have fin : ∀ {a}, (cE cf N n sc a).map (fun ca => E.idx ca cb) = some c → PE X (.Subscript a b pos) (tE X.K X.mg T W c) := fun {a} h => by
            simp only [Option.map_eq_some_iff] at h
            obtain ⟨ca, h3, rfl⟩ := h
            exact m_idx C.tw (by have := C.room.un; omega) (ihE _ _ h3) (ihE _ _ h2) hs
          split at h
          · split at h
            · rename_i i hi
              split at h
              · cases h
                obtain ⟨h1, h3, h4, h5⟩ := slot_of hi
                exact m_lidx (by rw [C.hN]; exact h3) (by rw [C.hsc]; exact h1) h4 h5 (ihE _ _ h2) hs
              · exact fin h
            · exact fin h
          · exact fin h
      exact ⟨hPE, fun _ => val_T hPE rfl⟩
    · simp only [Option.map_eq_some_iff] at h
      obtain ⟨cs, h1, rfl⟩ := h
      have hPE := m_tup (pos := ‹Pos›) (k := ‹Nat›) (pa_ok (fun _ _ h => cE_star h) ihE h1)
      exact ⟨m_tup (pa_ok (fun _ _ h => cE_star h) ihE h1), fun _ => val_T (m_tup (pa_ok (fun _ _ h => cE_star h) ihE h1)) rfl⟩
    · simp only [Option.map_eq_some_iff] at h
      obtain ⟨cs, h1, rfl⟩ := h
      have hpa := pa_ok (W := W) (fun _ _ h => cE_star h) ihE h1
      split
      · exact ⟨m_mlst hpa, fun _ => val_T (m_mlst hpa) rfl⟩
      · exact ⟨m_lst hpa, fun _ => val_T (m_lst hpa) rfl⟩
    · -- call
      rename_i f p a es pos
      have hPE : PE X (.Call (.Name f p) (a :: es) [] pos) (tE X.K X.mg T W c) := by
        split at h
        · rename_i hg
          split at h
          · rename_i s2 b2 hla
            obtain ⟨lp, rfl⟩ := lamOf_inv hla
            split at h
            · split at h
              · rename_i xe nms he
                split at h
                · rename_i hq
                  simp only [Bool.and_eq_true, decide_eq_true_eq] at hq
                  obtain ⟨⟨q1, rfl⟩, q3⟩ := hq
                  simp only [Option.map_eq_some_iff] at h
                  obtain ⟨ce, h1, rfl⟩ := h
                  obtain ⟨hjk, cc, P, l1, l2, l3, l4⟩ := C.lam q1
                  obtain ⟨g, pg, bg, sg, fd, L, cs, CE, ED, hn⟩ := C.err _ _ he
                  obtain ⟨k', rfl⟩ : ∃ k', k = k' + 2 := ⟨k - 2, by omega⟩
                  refine m_err ED (gl_X C hg) l2 l1 l3 l4 C.room (by rw [C.hsc]; exact LamX.lamS_by q3) rfl (fun _ _ _ _ _ => rfl) hn (fun A outer s H E f c' hr => ?_) (gl_of hg).2.1
                  exact (ih _ _ _ _ h1 _ _ j k' (C.lamN (by omega) s2 A outer s H E f c' hr)).1
                · cases h
              · cases h
            · cases h
          · rename_i hla
            split at h
            · rename_i kk F hf
              split at h
              · rename_i hl
                simp only [Option.map_eq_some_iff] at h
                obtain ⟨cs, h1, rfl⟩ := h
                have hst := cEs_star h1
                simp only [List.all_cons, Bool.and_eq_true, Bool.not_eq_true'] at hst
                obtain ⟨f, fd, ps, hm, hk, hb, FO⟩ := C.fns _ _ _ hf
                exact m_call (FO.mono C.jk) C.room (gl_X C hg) hm hk hb C.tk hl (pa_ok (fun _ _ h => cE_star h) ihE h1) (gl_of hg).2.1 (star1 hst.1) (back0 hst.2) (fun δ μ xs μ' hx => by rw [cEs_len h1 _ _ _ _ hx, List.length_cons]; exact hl)
              · cases h
            · split at h
              · rename_i b hr
                obtain ⟨p2, p3, rfl, rfl, rfl, h3⟩ := rngOf_inv hr
                simp only [Option.map_eq_some_iff] at h
                obtain ⟨cb, h1, rfl⟩ := h
                exact m_lrng C.calm (gl_X C hg) (C.bis _ (by decide +kernel)) (gl_X C h3) (C.bis _ (by decide +kernel)) (ihE _ _ h1) (star1 (cE_star h1))
              · split at h
                · rename_i i io hd
                  cases h
                  obtain ⟨x, px1, po1, px2, ps1, kt, pt1, px3, po2, sc2, pl, o, rfl, rfl, rfl, d1, d2, d3, d4, d5, d6, d7, d8, d9, d10, d11, d12, d13, d14⟩ := dcpOf_inv hd
                  have hok : BlkOk X.N X.env.scope sc2 (ownOf N sc2) := by rw [C.hN, C.hsc]; exact blkOk_by d2
                  refine m_dcp C.calm (by have := C.room.un; omega) (gl_X C d1) (C.bis _ (by decide +kernel)) (by rw [C.hN]; exact C.nd) hok d14 d13 (by rw [C.hN]; exact ixOf_ok d11) (by rw [C.hN]; exact ixOf_ok d12) (by rw [C.hsc]; exact vis_of d3) d7 d8 d9 d10 (fun s H a cl fp => ?_) (fun s H a cl fp => ?_)
                  · have L := locOk_blk (X := X) (scope := sc2) (s := s) (H := H) (cl := cl) (a := a) (fp := fp) x d6
                    refine ⟨?_, L.1, L.2⟩
                    rw [(C.blk sc2 s H cl a fp).hsc]; exact vis_of d5
                  · rw [(C.blk sc2 s H cl a fp).hsc]; exact vis_of d4
                · split at h
                  · rename_i hq
                    obtain ⟨rfl, _, rfl⟩ := hq
                    simp only [Option.map_eq_some_iff] at h
                    obtain ⟨ca, h1, rfl⟩ := h
                    exact m_mcp (gl_X C hg) (C.bis _ (by decide +kernel)) (ihE _ _ h1) (star1 (cE_star h1))
                  simp only [Option.bind_eq_some_iff, Option.map_eq_some_iff] at h
                  obtain ⟨g, hg1, cs, h1, rfl⟩ := h
                  have hst := cEs_star h1
                  simp only [List.all_cons, Bool.and_eq_true, Bool.not_eq_true'] at hst
                  obtain ⟨hn, hh⟩ := bi_ok (T := T) C.calm hg1
                  rcases hh with ⟨id, hv, hc⟩ | ⟨id, hv, hc⟩
                  · exact m_bi hc (gl_X C hg) (C.bis _ hn) hv (pa_ok (fun _ _ h => cE_star h) ihE h1) (gl_of hg).2.2 (gl_of hg).2.1 (star1 hst.1) (back0 hst.2)
                  · exact m_biT hc (gl_X C hg) (C.bis _ hn) hv (pa_ok (fun _ _ h => cE_star h) ihE h1) (gl_of hg).2.2 (gl_of hg).2.1 (star1 hst.1) (back0 hst.2)
        · split at h
          · rename_i i hi
            simp only [Option.map_eq_some_iff] at h
            obtain ⟨cs, h1, rfl⟩ := h
            have hst := cEs_star h1
            simp only [List.all_cons, Bool.and_eq_true, Bool.not_eq_true'] at hst
            obtain ⟨v1, v2, v3, v4⟩ := slot_of hi
            exact m_dyn (k := k) (fun z a F hz => by
              obtain ⟨f, fd, ps, hm, hk, hb, FO⟩ := C.fns _ _ _ hz
              exact ⟨f, fd, ps, hm, hk, hb, FO.mono C.jk⟩) C.room (by rw [C.hN]; exact v2) (by rw [C.hsc]; exact v1) C.tk (pa_ok (fun _ _ h => cE_star h) ihE h1) v3 v4 (star1 hst.1) (back0 hst.2)
          · cases h
      exact ⟨hPE, fun _ => val_T hPE rfl⟩
    · -- methods of texts
      rename_i o m ap cp
      split at h
      · rename_i hq
        simp only [Option.bind_eq_some_iff, Option.map_eq_some_iff] at h
        obtain ⟨f, h1, co, h2, rfl⟩ := h
        obtain ⟨id, m1, m2, m3⟩ := me0_ok (X := X) (T := T) h1
        have hPE := m_meth0 m1 m2 m3 (ihE _ _ h2) (base_ok hq.1) hq.2
        exact ⟨hPE, fun _ => val_T hPE rfl⟩
      · cases h
    · rename_i o m ap e cp
      split at h
      · rename_i hq
        simp only [Option.bind_eq_some_iff, Option.map_eq_some_iff] at h
        obtain ⟨f, h1, co, h2, ce, h3, rfl⟩ := h
        obtain ⟨id, m1, m2, m3⟩ := me1_ok (X := X) (T := T) h1
        have hPE := m_meth1 m1 m2 m3 (ihE _ _ h2) (ihE _ _ h3) (star1 (cE_star h3)) (base_ok hq.1) hq.2
        exact ⟨hPE, fun _ => val_T hPE rfl⟩
      · cases h
    · rename_i o m ap e e2 cp
      split at h
      · rename_i hq
        obtain ⟨q1, q2, rfl⟩ := hq
        simp only [Option.bind_eq_some_iff, Option.map_eq_some_iff] at h
        obtain ⟨co, h1, ce, h2, ce2, h3, rfl⟩ := h
        have hPE := m_dget (X := X) (T := T) (W := W) C.tw (by have := C.room.un; omega) (ihE _ _ h1) (ihE _ _ h2) (ihE _ _ h3) ⟨base_ok q1, by rw [trees2 (cE_star h2) (cE_star h3)]; rfl, q2, trees2 (cE_star h2) (cE_star h3)⟩
        exact ⟨hPE, fun _ => val_T hPE rfl⟩
      · cases h
    · -- comprehension
      rename_i elt tg iter ifs sc2 pos
      have hPE : PE X (.ListComp elt [⟨tg, iter, ifs, 0⟩] sc2 pos) (tE X.K X.mg T W c) := by
        split at h
        · rename_i hblk
          simp only [Option.bind_eq_some_iff] at h
          obtain ⟨ct, h1, h⟩ := h
          split at h
          · rename_i hsl
            simp only [Option.bind_eq_some_iff, Option.map_eq_some_iff] at h
            obtain ⟨ci, h2, cc, h3, ce, h4, rfl⟩ := h
            obtain ⟨p1, p2⟩ := it_ok C (fun _ _ h => cE_star h) ihE h2
            have hok : BlkOk X.N X.env.scope sc2 (ownOf N sc2) := by rw [C.hN, C.hsc]; exact blkOk_by hblk
            refine m_comp C.calm (by rw [C.hN]; exact C.nd) p1 hok (fun s H a cl fp => ?_) (fun s H a cl fp => ?_) (fun s H a cl fp => ?_) p2 _ rfl (fun i hi => ?_)
            · exact tg_ok (X := X.blk s H sc2 (compEnvC sc2 cl a X.env) fp) C.hN C.nd C.calm locOk_blk h1
            · exact if_ok (X := X.blk s H sc2 (compEnvC sc2 cl a X.env) fp) (fun e c h => ih _ _ e c h _ _ j k (C.blk sc2 s H cl a fp)) h3
            · exact (ih _ _ _ _ h4 _ _ j k (C.blk sc2 s H cl a fp)).1
            · exact of_decide_eq_true (List.all_eq_true.mp hsl i hi)
          · cases h
        · cases h
      exact ⟨hPE, fun _ => val_T hPE rfl⟩
    · rename_i elt tg iter ifs tg1 iter1 ifs1 sc2 pos
      have hPE : PE X (.ListComp elt [⟨tg, iter, ifs, 0⟩, ⟨tg1, iter1, ifs1, 0⟩] sc2 pos) (tE X.K X.mg T W c) := by
        split at h
        · rename_i hblk
          simp only [Option.bind_eq_some_iff] at h
          obtain ⟨ct, h1, ct1, h11, h⟩ := h
          split at h
          · rename_i hsl
            rw [Bool.and_eq_true] at hsl
            simp only [Option.bind_eq_some_iff, Option.map_eq_some_iff] at h
            obtain ⟨ci, h2, cc, h3, ci1, h21, cc1, h31, ce, h4, rfl⟩ := h
            obtain ⟨p1, p2⟩ := it_ok C (fun _ _ h => cE_star h) ihE h2
            have hok : BlkOk X.N X.env.scope sc2 (ownOf N sc2) := by rw [C.hN, C.hsc]; exact blkOk_by hblk
            have gg := fun (s : Shared) (H : Hp) (a : Addr) (cl : List (Str × Addr)) (fp : List Addr) (t : Expr) (c : Tg) (h : cTg N sc2 t = some c) => tg_ok (X := X.blk s H sc2 (compEnvC sc2 cl a X.env) fp) (T := T) C.hN C.nd C.calm locOk_blk h
            have tt := fun (s : Shared) (H : Hp) (a : Addr) (cl : List (Str × Addr)) (fp : List Addr) (t : List Expr) (c : E) (h : cIf (cE cf.nolam N n (relS sc2 sc)) t = some c) => if_ok (X := X.blk s H sc2 (compEnvC sc2 cl a X.env) fp) (T := T) (W := WF) (fun e c h => ih _ _ e c h _ _ j k (C.blk sc2 s H cl a fp)) h
            have ii := fun (s : Shared) (H : Hp) (a : Addr) (cl : List (Str × Addr)) (fp : List Addr) (t e : Expr) (c : It) (h : cIt (cE cf.nolam N n (relS sc2 sc)) (relS sc2 sc) cf.nolam t e = some c) => (it_ok (C.blk sc2 s H cl a fp) (fun _ _ h => cE_star h) (fun e c h => (ih _ _ e c h _ _ j k (C.blk sc2 s H cl a fp)).1) h).1
            exact m_compn2 C.calm (by rw [C.hN]; exact C.nd) hok rfl (fun i hi => of_decide_eq_true (List.all_eq_true.mp hsl.1 i hi)) p1 p2
              (fun s H a cl fp => gg s H a cl fp _ _ h1) (fun s H a cl fp => tt s H a cl fp _ _ h3) (fun s H a cl fp => gg s H a cl fp _ _ h11) (fun s H a cl fp => tt s H a cl fp _ _ h31)
              (fun s H a cl fp => ii s H a cl fp _ _ _ h21) (fold_ok h21) (fun _ z => z) (fun i hi => of_decide_eq_true (List.all_eq_true.mp hsl.2 i hi))
              (fun s H a cl fp => (ih _ _ _ _ h4 _ _ j k (C.blk sc2 s H cl a fp)).1)
          · cases h
        · cases h
      exact ⟨hPE, fun _ => val_T hPE rfl⟩
    · rename_i elt tg iter ifs tg1 iter1 ifs1 tg2 iter2 ifs2 sc2 pos
      have hPE : PE X (.ListComp elt [⟨tg, iter, ifs, 0⟩, ⟨tg1, iter1, ifs1, 0⟩, ⟨tg2, iter2, ifs2, 0⟩] sc2 pos) (tE X.K X.mg T W c) := by
        split at h
        · rename_i hblk
          simp only [Option.bind_eq_some_iff] at h
          obtain ⟨ct, h1, ct1, h11, ct2, h12, h⟩ := h
          split at h
          · rename_i hsl
            rw [Bool.and_eq_true] at hsl
            simp only [Option.bind_eq_some_iff, Option.map_eq_some_iff] at h
            obtain ⟨ci, h2, cc, h3, ci1, h21, cc1, h31, ci2, h22, cc2, h32, ce, h4, rfl⟩ := h
            obtain ⟨p1, p2⟩ := it_ok C (fun _ _ h => cE_star h) ihE h2
            have hok : BlkOk X.N X.env.scope sc2 (ownOf N sc2) := by rw [C.hN, C.hsc]; exact blkOk_by hblk
            have gg := fun (s : Shared) (H : Hp) (a : Addr) (cl : List (Str × Addr)) (fp : List Addr) (t : Expr) (c : Tg) (h : cTg N sc2 t = some c) => tg_ok (X := X.blk s H sc2 (compEnvC sc2 cl a X.env) fp) (T := T) C.hN C.nd C.calm locOk_blk h
            have tt := fun (s : Shared) (H : Hp) (a : Addr) (cl : List (Str × Addr)) (fp : List Addr) (t : List Expr) (c : E) (h : cIf (cE cf.nolam N n (relS sc2 sc)) t = some c) => if_ok (X := X.blk s H sc2 (compEnvC sc2 cl a X.env) fp) (T := T) (W := WF) (fun e c h => ih _ _ e c h _ _ j k (C.blk sc2 s H cl a fp)) h
            have ii := fun (s : Shared) (H : Hp) (a : Addr) (cl : List (Str × Addr)) (fp : List Addr) (t e : Expr) (c : It) (h : cIt (cE cf.nolam N n (relS sc2 sc)) (relS sc2 sc) cf.nolam t e = some c) => (it_ok (C.blk sc2 s H cl a fp) (fun _ _ h => cE_star h) (fun e c h => (ih _ _ e c h _ _ j k (C.blk sc2 s H cl a fp)).1) h).1
            exact m_compn3 C.calm (by rw [C.hN]; exact C.nd) hok rfl (fun i hi => of_decide_eq_true (List.all_eq_true.mp hsl.1 i hi)) p1 p2
              (fun s H a cl fp => gg s H a cl fp _ _ h1) (fun s H a cl fp => tt s H a cl fp _ _ h3) (fun s H a cl fp => gg s H a cl fp _ _ h11) (fun s H a cl fp => tt s H a cl fp _ _ h31) (fun s H a cl fp => gg s H a cl fp _ _ h12) (fun s H a cl fp => tt s H a cl fp _ _ h32)
              (fun s H a cl fp => ii s H a cl fp _ _ _ h21) (fold_ok h21) (fun i z => List.mem_append_left _ z) (fun i hi => of_decide_eq_true (List.all_eq_true.mp hsl.2 i hi))
              (fun s H a cl fp => ii s H a cl fp _ _ _ h22) (fold_ok h22) (fun _ z => z) (fun i z => List.mem_append_right _ z)
              (fun s H a cl fp => (ih _ _ _ _ h4 _ _ j k (C.blk sc2 s H cl a fp)).1)
          · cases h
        · cases h
      exact ⟨hPE, fun _ => val_T hPE rfl⟩
    · cases h
end
end Mi
set_option Elab.async false
set_option linter.all false
set_option maxRecDepth 100000
set_option maxHeartbeats 4000000
/-! Mz: statements read off the text; a def's body. -/
namespace Mi
open PySem PySem.Spec PyProof.Rows L2 RZ
def isComp : Expr → Bool
  | .ListComp .. => true
  | .SetComp .. => true
  | .DictComp .. => true
  | _ => false
def swN (sc : Scope) (ts : List Expr) : List Str := ts.filterMap fun
  | .Name id pos => if (sc.names.lookup id == some .local && pos.line == (ts.head?.map (·.pos.line)).getD 0) = true then some id else none
  | _ => none
/-- what swappedStores comes to -/
def swP (sc : Scope) (ts vs : List Expr) : Option (Option (List Str)) :=
  if (!(ts.length == 2 || ts.length == 3) || vs.length != ts.length) = true then some none
  else if (vs.any fun | .Starred .. => true | _ => false) = true then some none
  else if ((swN sc ts).length != ts.length || (swN sc ts).eraseDups.length != (swN sc ts).length) = true then some none
  else if vs.all (foldedForSure 8) = true then some none
  else if vs.all (constantsAlone 8) = true then none
  else some (some (swN sc ts))
theorem swP_ok {sc : Scope} {env : Env} {ts vs : List Expr} {k k2 : Nat} {p p2 : Pos} {r : Option (List Str)} (hs : env.scope = sc) (hk : sc.kind = .function) (h : swP sc ts vs = some r) : swappedStores [.Tuple ts k p] (.Tuple vs k2 p2) env = pure r := by
  subst hs
  have hb : env.blockKind = .function := by unfold Env.blockKind; rw [hk]; rfl
  unfold swP at h
  unfold swappedStores
  simp only [hb]
  split at h
  · rename_i h1
    cases h
    simp only [bne_self_eq_false, Bool.or_false, h1, if_true]
  · rename_i h1
    simp only [bne_self_eq_false, Bool.or_false, h1, if_false]
    split at h
    · rename_i h2
      cases h
      exact if_pos h2
    · rename_i h2
      refine (if_neg h2).trans ?_
      show (if ((swN env.scope ts).length != ts.length || (swN env.scope ts).eraseDups.length != (swN env.scope ts).length) = true then pure none else if vs.all (foldedForSure 8) = true then pure none
        else if vs.all (constantsAlone 8) = true then (do
          unsupported "assign.tuple-of-constant-expressions:order-of-the-stores"
          pure (some (swN env.scope ts))) else pure (some (swN env.scope ts))) = pure r
      split at h
      · rename_i h3
        cases h
        exact if_pos h3
      · rename_i h3
        refine (if_neg h3).trans ?_
        split at h
        · rename_i h4
          cases h
          exact if_pos h4
        · rename_i h4
          refine (if_neg h4).trans ?_
          split at h
          · cases h
          · rename_i h5
            cases h
            exact if_neg h5
section
variable {X : Cx} {T : TW} {W : WX} {pos : Pos}
theorem s_par3 {i j l : Nat} {x y z : Str} {a b c : Expr} {ca : Es} {px py pz pt : Pos} {kt k2 pt2} (hc : X.calm = true) (hN : X.N.Nodup) (hi : X.N[i]? = some x) (hj : X.N[j]? = some y) (hl : X.N[l]? = some z) (hij : i ≠ j) (hil : i ≠ l) (hjl : j ≠ l)
    (hx : X.env.scope.names.lookup x = some .local) (hy : X.env.scope.names.lookup y = some .local) (hz : X.env.scope.names.lookup z = some .local) (ha : PA X [a, b, c] (tEs X.K X.mg T W ca))
    (hw : swappedStores [.Tuple [.Name x px, .Name y py, .Name z pz] kt pt] (.Tuple [a, b, c] k2 pt2) X.env = pure (some [x, y, z]))
    (hs : swapsWithSole [.Tuple [.Name x px, .Name y py, .Name z pz] kt pt] (.Tuple [a, b, c] k2 pt2) pos.line X.env = pure false) :
    PS X (.Assign [.Tuple [.Name x px, .Name y py, .Name z pz] kt pt] (.Tuple [a, b, c] k2 pt2) pos) (tS X.K X.mg T W (.set (.trip (.name i) (.name j) (.name l)) (.tup ca))) :=
  PS.imp (ps_par3 hc hN hi hj hl hij hil hjl hx hy hz ha hw hs) fun D σ H h => by
    obtain ⟨ι, Zo, Zf, μ, δ, s, hp⟩ := h
    simp only [ex, ev] at hp
    refine ⟨ι, Zo ++ Zf, Zf, μ, δ, s.g, s.s, ?_⟩
    have hp2 : pS X.K X.mg T W (thenE (evs ca δ μ) δ fun xs μ => if xs.length ≤ sizeLine then ((Tg.trip (.name i) (.name j) (.name l)).put (.tup xs) δ).bind fun δ => some (.nx, δ, μ) else none) ι Zo Zf H D := by
      cases h : evs ca δ μ with
      | none => rw [h] at hp; exact hp
      | some r =>
        obtain ⟨r, μ1⟩ := r
        cases r with
        | error e => rw [h] at hp; exact hp
        | ok xs =>
          rw [h] at hp
          simp only [bindR] at hp
          split at hp
          · rename_i hz; simp only [if_pos hz]; exact hp
          · exact hp.elim
    refine hp2.thenE s fun xs μ1 ι1 vs H1 e1 r1 s1 h1 => ?_
    split at h1
    · cases hq : (Tg.trip (.name i) (.name j) (.name l)).put (.tup xs) δ with
      | none => rw [hq] at h1; exact h1.elim
      | some δ' =>
        obtain ⟨u, w, w3, δ1, δ2, e, p1, p2, p3⟩ := put_trip hq
        cases e
        rw [hq] at h1
        simp only [Tg.put, Option.some.injEq] at p1 p2 p3
        subst p1 p2 p3
        obtain ⟨v, vs', rfl, r2, r1⟩ := r1
        obtain ⟨v', v3, rfl, r3, r4⟩ := Rps.two r1
        exact ⟨v, v', v3, rfl, h1.nx ⟨s1.g, ((s1.s.set r2).set r3).set r4, s1.dj⟩⟩
    · exact h1.elim
end
def lineOf : Stmt → Nat
  | .Return _ p => p.line
  | .Assign _ _ p => p.line
  | .Expr _ p => p.line
  | .If _ _ _ p => p.line
  | .For _ _ _ _ p => p.line
  | .While _ _ _ p => p.line
  | .Raise _ _ p => p.line
  | _ => 0
def addStill : List Nat → Ss → Ss
  | [], s => s
  | i :: is, s => .cons (.still i) (addStill is s)
def cSsF (cf : Cf) (f : Stmt → Option St) : List Stmt → Option Ss
  | [] => some .nil
  | s :: r => (cSsF cf f r).map fun cs => addStill ((cf.still.lookup (lineOf s)).getD []) (.cons ((f s).getD .bot) cs)
/-- is an assignment of a tuple to a tuple in order? -/
def swG (sc : Scope) : Expr → Expr → Bool
  | .Tuple ts _ _, .Tuple vs _ _ => (swP sc ts vs).isSome
  | .Name .., v => !isComp v
  | .Tuple .., _ => true
  | _, _ => false
/-- a name of a list that this name alone holds -/
def linOf (cf : Cf) (N : List Str) (sc : Scope) : Expr → Option Nat
  | .Name x _ => (slotOf N sc x).bind fun i => if i ∈ cf.lin then some i else none
  | _ => none
/-- x, y = e, [] with y such a list -/
def setlOf (cf : Cf) (N : List Str) (sc : Scope) : Expr → Expr → Option (Nat × Nat × Expr)
  | .Tuple [.Name x px, .Name y py] _ _, .Tuple [a, .List [] pl] _ _ => (ixOf x N).bind fun i => (ixOf y N).bind fun j =>
    if (decide (j ∈ cf.lin) && !isStar a && decide (x ≠ y) && sc.names.lookup x == some .local && sc.names.lookup y == some .local && swP sc [.Name x px, .Name y py] [a, .List [] pl] == some (some [x, y])) = true then some (i, j, a) else none
  | _, _ => none
/-- x, y, z = e, [], [] with y and z such lists -/
def setl2Of (cf : Cf) (N : List Str) (sc : Scope) : Expr → Expr → Option (Nat × Nat × Nat × Expr)
  | .Tuple [.Name x px, .Name y py, .Name z pz] _ _, .Tuple [a, .List [] pl, .List [] pl2] _ _ => (ixOf x N).bind fun i => (ixOf y N).bind fun j => (ixOf z N).bind fun l =>
    if (decide (j ∈ cf.lin) && decide (l ∈ cf.lin) && !isStar a && decide (x ≠ y) && decide (x ≠ z) && decide (y ≠ z) && sc.names.lookup x == some .local && sc.names.lookup y == some .local && sc.names.lookup z == some .local && swP sc [.Name x px, .Name y py, .Name z pz] [a, .List [] pl, .List [] pl2] == some (some [x, y, z])) = true then some (i, j, l, a) else none
  | _, _ => none
theorem setl2Of_inv {cf : Cf} {N : List Str} {sc : Scope} {tg v a : Expr} {i j l : Nat} (h : setl2Of cf N sc tg v = some (i, j, l, a)) : ∃ x px y py z pz k p pl pl2 k2 p2, tg = .Tuple [.Name x px, .Name y py, .Name z pz] k p ∧ v = .Tuple [a, .List [] pl, .List [] pl2] k2 p2 ∧ ixOf x N = some i ∧ ixOf y N = some j ∧ ixOf z N = some l ∧ isStar a = false ∧ x ≠ y ∧ x ≠ z ∧ y ≠ z ∧ sc.names.lookup x = some .local ∧ sc.names.lookup y = some .local ∧ sc.names.lookup z = some .local ∧ swP sc [.Name x px, .Name y py, .Name z pz] [a, .List [] pl, .List [] pl2] = some (some [x, y, z]) := by
  unfold setl2Of at h
  split at h
  · simp only [Option.bind_eq_some_iff] at h
    obtain ⟨i', h1, j', h2, l', h3, h4⟩ := h
    split at h4
    · rename_i hq
      cases h4
      simp only [Bool.and_eq_true, decide_eq_true_eq, Bool.not_eq_true', beq_iff_eq] at hq
      obtain ⟨⟨⟨⟨⟨⟨⟨⟨⟨_, _⟩, q2⟩, q3⟩, q4⟩, q5⟩, q6⟩, q7⟩, q8⟩, q9⟩ := hq
      exact ⟨_, _, _, _, _, _, _, _, _, _, _, _, rfl, rfl, h1, h2, h3, q2, q3, q4, q5, q6, q7, q8, q9⟩
    · cases h4
  · cases h
theorem linOf_inv {cf : Cf} {N : List Str} {sc : Scope} {e : Expr} {m : Nat} (h : linOf cf N sc e = some m) : ∃ x p, e = .Name x p ∧ slotOf N sc x = some m := by
  unfold linOf at h
  split at h
  · simp only [Option.bind_eq_some_iff] at h
    obtain ⟨i, h1, h2⟩ := h
    split at h2
    · cases h2; exact ⟨_, _, rfl, h1⟩
    · cases h2
  · cases h
theorem setlOf_inv {cf : Cf} {N : List Str} {sc : Scope} {tg v a : Expr} {i j : Nat} (h : setlOf cf N sc tg v = some (i, j, a)) : ∃ x px y py k p pl k2 p2, tg = .Tuple [.Name x px, .Name y py] k p ∧ v = .Tuple [a, .List [] pl] k2 p2 ∧ ixOf x N = some i ∧ ixOf y N = some j ∧ isStar a = false ∧ x ≠ y ∧ sc.names.lookup x = some .local ∧ sc.names.lookup y = some .local ∧ swP sc [.Name x px, .Name y py] [a, .List [] pl] = some (some [x, y]) := by
  unfold setlOf at h
  split at h
  · simp only [Option.bind_eq_some_iff] at h
    obtain ⟨i', h1, j', h2, h3⟩ := h
    split at h3
    · rename_i hq
      cases h3
      simp only [Bool.and_eq_true, decide_eq_true_eq, Bool.not_eq_true', beq_iff_eq] at hq
      obtain ⟨⟨⟨⟨⟨_, q2⟩, q3⟩, q4⟩, q5⟩, q6⟩ := hq
      exact ⟨_, _, _, _, _, _, _, _, _, rfl, rfl, h1, h2, q2, q3, q4, q5, q6⟩
    · cases h3
  · cases h
def fuelW : Nat := 10 ^ 40
def isAdd : E → Bool
  | .op .add _ _ => true
  | _ => false
def cS (cf : Cf) (N : List Str) : Nat → Scope → Stmt → Option St
  | 0, _, _ => none
  | n + 1, sc, st => match st with
    | .Pass _ => some .pass
    | .Break _ => some .brk
    | .Continue _ => some .cont
    | .Expr (.Constant (.str _) _ _) _ => some .pass
    | .Expr (.Call (.Attribute (.Name x _) m p2) [e] [] p3) _ => if decide (m = "append") = true ∧ (p2.endLine == p3.line) = true then (slotOf N sc x).bind fun i => if i ∈ cf.lin then (cE cf N n sc e).map fun c => .app i c else none else none
    | .Expr e _ => if isComp e = true then none else (cE cf N n sc e).map .expr
    | .Return (some e) _ => (cE cf N n sc e).map .ret
    | .Return none _ => some .retn
    | .If c a b _ => if isIf c = true then none else (cE cf N n sc c).bind fun cc => (cSsF cf (cS cf N n sc) a).bind fun ca => (cSsF cf (cS cf N n sc) b).map fun cb => .ite cc ca cb
    | .For tg it body [] _ => (cTg N sc tg).bind fun ct => (cIt (cE cf N n sc) sc cf tg it).bind fun ci => (cSsF cf (cS cf N n sc) body).map fun cb => .for_ ct ci cb
    | .While c body [] _ => if isIf c = true then none else (cE cf N n sc c).bind fun cc => (cSsF cf (cS cf N n sc) body).map fun cb => .while_ fuelW cc cb
    | .Raise (some (.Call (.Name c _) [.Constant (.str _) _ _] [] _)) none _ => if glB sc c = true ∧ c ∈ cf.excs then some (.raise c) else none
    | .Raise (some (.Call (.Name c _) [e] [] _)) none _ => if glB sc c = true ∧ c ∈ cf.xcs then (cE cf N n sc e).map fun ce => .raisep c ce else none
    | .Assign [.Subscript o i _] v _ => if isSl i = true ∨ isComp v = true then none else (cE cf N n sc v).bind fun cv => (match linOf cf N sc o with
      | some m => (cE cf N n sc i).map fun ci => .lput m ci cv
      | none => (cE cf N n sc o).bind fun co => (cE cf N n sc i).map fun ci => .put co ci cv)
    | .Assign [.Name x px] (.List es pe) _ => if locB sc x = true then (ixOf x N).bind fun i => if i ∈ cf.lin then (cEsF (cE cf N n sc) es).map fun cs => .lin i cs else (cE cf N n sc (.List es pe)).map fun ce => .set (.name i) ce else none
    | .Assign [.Name x _] (.ListComp elt gs sc2 pc) _ => if locB sc x = true ∧ gs.length = 1 then (ixOf x N).bind fun i => (cE cf N n sc (.ListComp elt gs sc2 pc)).map fun ce => if i ∈ cf.lin then .linc i ce else .set (.name i) ce else none
    | .Assign [.Name x _] (.BinOp a .Add b pb) _ => if locB sc x = true then (ixOf x N).bind fun i => (cE cf N n sc (.BinOp a .Add b pb)).map fun ce => if i ∈ cf.lin ∧ isAdd ce = true then .linc i ce else .set (.name i) ce else none
    | .Assign [.Tuple [.Subscript o i p, .Subscript o2 i2 p2] _ _] (.Tuple [e, e2] _ _) _ => if isSl i = true ∨ isSl i2 = true ∨ swP sc [.Subscript o i p, .Subscript o2 i2 p2] [e, e2] ≠ some none then none else
      (cE cf N n sc e).bind fun ce => (cE cf N n sc e2).bind fun ce2 => (cE cf N n sc o).bind fun co => (cE cf N n sc i).bind fun ci => (cE cf N n sc o2).bind fun co2 => (cE cf N n sc i2).map fun ci2 => .put2 co ci co2 ci2 ce ce2
    | .Assign [tg] v _ => if swG sc tg v = true then (match setlOf cf N sc tg v with
      | some (i, j, a) => (cE cf N n sc a).map fun ca => .setl i j ca
      | none => (match setl2Of cf N sc tg v with
      | some (i, j, l, a) => (cE cf N n sc a).map fun ca => .setl2 i j l ca
      | none => (cTg N sc tg).bind fun ct => (cE cf N n sc v).map fun ce => .set ct ce)) else none
    | _ => none
/-- where a def's own statements stand -/
structure CxS (X : Cx) (cf : Cf) (N : List Str) (sc : Scope) (T : TW) (W : WX) (j k : Nat) : Prop where
  c : Cxt X cf N sc T W j k
  po : PassesOwn (model X.prog X.w) X.A X.env X.xe
  fn : ∀ y, X.fn y = true
  fk : sc.kind = .function
theorem CxS.loc {X : Cx} {cf : Cf} {N : List Str} {sc : Scope} {T : TW} {W : WX} {j k : Nat} (C : CxS X cf N sc T W j k) : LocOk X sc := fun y h => ⟨by rw [C.c.hsc]; exact loc_of h, .inl (C.fn y)⟩
theorem ss_stills {X : Cx} {T : TW} {W : WX} {rest : List Stmt} {cs : Ss} (h : PSs X rest (tSs X.K X.mg T W cs)) : ∀ is : List Nat, PSs X rest (tSs X.K X.mg T W (addStill is cs))
  | [] => h
  | _ :: is => ss_still (ss_stills h is)
theorem ss_ok {X : Cx} {cf : Cf} {T : TW} {W : WX} {f : Stmt → Option St} (ih : ∀ s c, f s = some c → PS X s (tS X.K X.mg T W c)) : ∀ {ss : List Stmt} {cs : Ss}, cSsF cf f ss = some cs → PSs X ss (tSs X.K X.mg T W cs)
  | [], cs, h => by
    simp only [cSsF, Option.some.injEq] at h
    subst h
    exact ss_nil
  | s :: r, cs, h => by
    unfold cSsF at h
    simp only [Option.bind_eq_some_iff, Option.map_eq_some_iff] at h
    obtain ⟨cr, h2, rfl⟩ := h
    refine ss_stills (ss_cons ?_ (ss_ok ih h2)) _
    cases h1 : f s with
    | none => exact ⟨fun pins sh σ H D I hh => by obtain ⟨_, _, _, _, _, _, hp⟩ := hh; exact hp.elim⟩
    | some c => exact ih _ _ h1
end Mi
set_option Elab.async false
set_option linter.all false
set_option maxRecDepth 100000
set_option maxHeartbeats 4000000
/-! My: what is read off a statement is right. -/
namespace Mi
open PySem PySem.Spec PyProof.Rows L2 RZ
section
variable {cf : Cf} {N : List Str} {T : TW} {j k : Nat}
theorem lc_inv {n : Nat} {sc sc2 : Scope} {elt : Expr} {gs : List Comprehension} {pos : Pos} {c : E} (hg : gs.length = 1) (h : cE cf N n sc (.ListComp elt gs sc2 pos) = some c) : ∃ m tg iter ifs ct ci cc ce, n = m + 1 ∧ gs = [⟨tg, iter, ifs, 0⟩] ∧ blkC N sc sc2 (ownOf N sc2) = true ∧ cTg N sc2 tg = some ct ∧
    ct.slots.all (fun i => decide (i ∈ (ownOf N sc2).map (·.2))) = true ∧ cIt (cE cf N m sc) sc cf tg iter = some ci ∧ cIf (cE cf.nolam N m (relS sc2 sc)) ifs = some cc ∧ cE cf.nolam N m (relS sc2 sc) elt = some ce ∧ c = .comp ce ct ci cc ((ownOf N sc2).map (·.2)) := by
  cases n with
  | zero => simp [cE] at h
  | succ n =>
    unfold cE at h
    split at h
    all_goals first
      | (rename_i e; cases e; done)
      | skip
    · rename_i e
      cases e
      split at h
      · rename_i hblk
        simp only [Option.bind_eq_some_iff] at h
        obtain ⟨ct, h1, h⟩ := h
        split at h
        · rename_i hsl
          simp only [Option.bind_eq_some_iff, Option.map_eq_some_iff] at h
          obtain ⟨ci, h2, cc, h3, ce, h4, rfl⟩ := h
          exact ⟨n, _, _, _, ct, ci, cc, ce, rfl, rfl, hblk, h1, hsl, h2, h3, h4, rfl⟩
        · cases h
      · cases h
    · rename_i e
      cases e
      simp at hg
    · rename_i e
      cases e
      simp at hg
    · cases h
theorem set_lc {n : Nat} {sc sc2 : Scope} {elt : Expr} {gs : List Comprehension} {cpos px pos : Pos} {x : Str} {i : Nat} {c : E} (hx : locB sc x = true) (hi : ixOf x N = some i) (hg1 : gs.length = 1) (h : cE cf N n sc (.ListComp elt gs sc2 cpos) = some c) (X : Cx) (W : WX) (C : CxS X cf N sc T W j k) :
    PS X (.Assign [.Name x px] (.ListComp elt gs sc2 cpos) pos) (tS X.K X.mg T W (.set (.name i) c)) := by
  by_cases hs : (X.env.blockKind == .function && X.env.kindOf x == some .local && px.line == cpos.line && !(sc2.names.any fun (n, k) => n == x && (k == .local || k == .cell))) = true
  · have hsw : swapsWith (.ListComp elt gs sc2 cpos) (some (.Name x px)) pos.line X.env = pure true := by
      show (pure _ : PySem.Sem Bool) = pure true
      exact congrArg pure hs
    obtain ⟨m, tg, iter, ifs, ct, ci, cc, ce, rfl, rfl, hblk, h1, hsl, h2, h3, h4, rfl⟩ := lc_inv hg1 h
    have ihE := fun e c h => (e_ok (T := T) m cf sc e c h X W j k C.c).1
    obtain ⟨p1, p2⟩ := it_ok C.c (fun _ _ h => cE_star h) ihE h2
    have hok : BlkOk X.N X.env.scope sc2 (ownOf N sc2) := by rw [C.c.hN, C.c.hsc]; exact blkOk_by hblk
    have hyl : X.env.scope.names.lookup x = some .local := by
      simp only [Bool.and_eq_true] at hs
      exact eq_of_beq hs.1.1.2
    refine s_setLc C.c.calm (by rw [C.c.hN]; exact C.c.nd) (by rw [C.c.hN]; exact ixOf_ok hi) hyl hsw p1 hok (fun s H a cl fp => ?_) (fun s H a cl fp => ?_) (fun s H a cl fp => ?_) p2 _ rfl (fun i hi => ?_)
    · exact tg_ok (X := X.blk s H sc2 (compEnvC sc2 cl a X.env) fp) C.c.hN C.c.nd C.c.calm locOk_blk h1
    · exact if_ok (X := X.blk s H sc2 (compEnvC sc2 cl a X.env) fp) (fun e c h => e_ok m _ _ e c h _ _ j k (C.c.blk sc2 s H cl a fp)) h3
    · exact (e_ok m _ _ _ _ h4 _ _ j k (C.c.blk sc2 s H cl a fp)).1
    · exact of_decide_eq_true (List.all_eq_true.mp hsl i hi)
  · have hsw : swapsWith (.ListComp elt gs sc2 cpos) (some (.Name x px)) pos.line X.env = pure false := by
      show (pure _ : PySem.Sem Bool) = pure false
      exact congrArg pure (Bool.eq_false_iff.mpr hs)
    exact s_set (e_ok n cf sc _ _ h X W j k C.c).1 (tg1 C.c.hN C.c.nd C.loc hx hi) hsw rfl rfl
theorem set_linc {n : Nat} {sc sc2 : Scope} {elt : Expr} {gs : List Comprehension} {cpos px pos : Pos} {x : Str} {i : Nat} {c : E} (hx : locB sc x = true) (hi : ixOf x N = some i) (hg1 : gs.length = 1) (h : cE cf N n sc (.ListComp elt gs sc2 cpos) = some c) (X : Cx) (W : WX) (C : CxS X cf N sc T W j k) :
    PS X (.Assign [.Name x px] (.ListComp elt gs sc2 cpos) pos) (tS X.K X.mg T W (.linc i c)) := by
  obtain ⟨m, tg, iter, ifs, ct, ci, cc, ce, rfl, rfl, hblk, h1, hsl, h2, h3, h4, rfl⟩ := lc_inv hg1 h
  have ihE := fun e c h => (e_ok (T := T) m cf sc e c h X W j k C.c).1
  obtain ⟨p1, p2⟩ := it_ok C.c (fun _ _ h => cE_star h) ihE h2
  have hok : BlkOk X.N X.env.scope sc2 (ownOf N sc2) := by rw [C.c.hN, C.c.hsc]; exact blkOk_by hblk
  have q1 := fun (s : Shared) (H : Hp) (a : Addr) (cl : List (Str × Addr)) (fp : List Addr) => tg_ok (T := T) (X := X.blk s H sc2 (compEnvC sc2 cl a X.env) fp) C.c.hN C.c.nd C.c.calm locOk_blk h1
  have q2 := fun (s : Shared) (H : Hp) (a : Addr) (cl : List (Str × Addr)) (fp : List Addr) => if_ok (X := X.blk s H sc2 (compEnvC sc2 cl a X.env) fp) (fun e c h => e_ok m _ _ e c h _ _ j k (C.c.blk sc2 s H cl a fp)) h3
  have q3 := fun (s : Shared) (H : Hp) (a : Addr) (cl : List (Str × Addr)) (fp : List Addr) => (e_ok m _ _ _ _ h4 _ _ j k (C.c.blk sc2 s H cl a fp)).1
  have q4 : ∀ i ∈ ct.slots, i ∈ (ownOf N sc2).map (·.2) := fun i hi => of_decide_eq_true (List.all_eq_true.mp hsl i hi)
  by_cases hs : (X.env.blockKind == .function && X.env.kindOf x == some .local && px.line == cpos.line && !(sc2.names.any fun (n, k) => n == x && (k == .local || k == .cell))) = true
  · have hsw : swapsWith (.ListComp elt [⟨tg, iter, ifs, 0⟩] sc2 cpos) (some (.Name x px)) pos.line X.env = pure true := by
      show (pure _ : PySem.Sem Bool) = pure true
      exact congrArg pure hs
    have hyl : X.env.scope.names.lookup x = some .local := by
      simp only [Bool.and_eq_true] at hs
      exact eq_of_beq hs.1.1.2
    exact s_lincA C.c.calm (by rw [C.c.hN]; exact C.c.nd) (by rw [C.c.hN]; exact ixOf_ok hi) hyl hsw p1 hok q1 q2 q3 p2 _ rfl q4
  · have hsw : swapsWith (.ListComp elt [⟨tg, iter, ifs, 0⟩] sc2 cpos) (some (.Name x px)) pos.line X.env = pure false := by
      show (pure _ : PySem.Sem Bool) = pure false
      exact congrArg pure (Bool.eq_false_iff.mpr hs)
    exact s_lincB C.c.calm (by rw [C.c.hN]; exact C.c.nd) (by rw [C.c.hN]; exact ixOf_ok hi) (C.loc x hx).1 (C.loc x hx).2 hsw p1 hok q1 q2 q3 p2 _ rfl q4
def swF (sc : Scope) (ln : Nat) : Expr → Option Str
  | .Name id pos => if (sc.names.lookup id == some .local && pos.line == ln) = true then some id else none
  | _ => none
theorem swN_eq {sc : Scope} {ts : List Expr} : swN sc ts = ts.filterMap (swF sc ((ts.head?.map (·.pos.line)).getD 0)) := by
  unfold swN
  congr 1
theorem fm_cons {f : Expr → Option Str} {t : Expr} {ts : List Expr} (h : ((t :: ts).filterMap f).length = ts.length + 1) : ∃ x, f t = some x ∧ (ts.filterMap f).length = ts.length ∧ (t :: ts).filterMap f = x :: ts.filterMap f := by
  cases hq : f t with
  | none =>
    rw [List.filterMap_cons_none hq] at h
    have := List.length_filterMap_le f ts
    omega
  | some x =>
    rw [List.filterMap_cons_some hq] at h
    exact ⟨x, rfl, by simpa using h, List.filterMap_cons_some hq⟩
theorem swF_inv {sc : Scope} {ln : Nat} {t : Expr} {x : Str} (h : swF sc ln t = some x) : ∃ p, t = .Name x p ∧ sc.names.lookup x = some .local := by
  unfold swF at h
  split at h
  · split at h
    · rename_i e
      cases h
      simp only [Bool.and_eq_true] at e
      exact ⟨_, rfl, eq_of_beq e.1⟩
    · cases h
  · cases h
theorem swP_inv {sc : Scope} {ts vs : List Expr} {ns : List Str} (h : swP sc ts vs = some (some ns)) : ns = swN sc ts ∧ vs.length = ts.length ∧ (ts.length = 2 ∨ ts.length = 3) ∧ (swN sc ts).length = ts.length ∧ (swN sc ts).eraseDups.length = (swN sc ts).length := by
  unfold swP at h
  split at h
  · cases h
  · rename_i h1
    split at h
    · cases h
    · split at h
      · cases h
      · rename_i h3
        split at h
        · cases h
        · split at h
          · cases h
          · simp only [Option.some.injEq] at h
            simp at h1 h3
            exact ⟨h.symm, h1.2, by omega, h3.1, h3.2⟩
theorem cE_tup {n : Nat} {sc : Scope} {vs : List Expr} {k : Nat} {p : Pos} {c : E} (h : cE cf N n sc (.Tuple vs k p) = some c) : ∃ m cs, n = m + 1 ∧ cEsF (cE cf N m sc) vs = some cs ∧ c = .tup cs := by
  cases n with
  | zero => simp [cE] at h
  | succ n =>
    unfold cE at h
    simp only [Option.map_eq_some_iff] at h
    obtain ⟨cs, h1, rfl⟩ := h
    exact ⟨n, cs, rfl, h1, rfl⟩
theorem ix_ne {x y : Str} {i j : Nat} (hi : ixOf x N = some i) (hj : ixOf y N = some j) (h : x ≠ y) : i ≠ j := fun e => by
  subst e
  have a := ixOf_ok hi
  have b := ixOf_ok hj
  rw [a] at b
  cases b
  exact h rfl
theorem dup2 {x y : Str} (h : [x, y].eraseDups.length = 2) : x ≠ y := fun e => by
  subst e
  simp [List.eraseDups_cons] at h
theorem dup3 {x y z : Str} (h : [x, y, z].eraseDups.length = 3) : x ≠ y ∧ x ≠ z ∧ y ≠ z := by
  refine ⟨fun e => ?_, fun e => ?_, fun e => ?_⟩
  · subst e
    by_cases q : z = x
    · subst q; simp [List.eraseDups_cons] at h
    · simp [List.eraseDups_cons, q] at h
  · subst e
    by_cases q : y = x
    · subst q; simp [List.eraseDups_cons] at h
    · simp [List.eraseDups_cons, q] at h
  · subst e
    by_cases q : y = x
    · subst q; simp [List.eraseDups_cons] at h
    · simp [List.eraseDups_cons, q] at h
theorem assign_ok {n : Nat} {sc : Scope} {tg v : Expr} {pos : Pos} {ct : Tg} {ce : E} (hg : swG sc tg v = true) (ht : cTg N sc tg = some ct) (he : cE cf N n sc v = some ce) (X : Cx) (W : WX) (C : CxS X cf N sc T W j k) : PS X (.Assign [tg] v pos) (tS X.K X.mg T W (.set ct ce)) := by
  have hv := (e_ok n cf sc v ce he X W j k C.c).1
  have hp := tg_ok (T := T) C.c.hN C.c.nd C.c.calm C.loc ht
  cases tg with
  | Name x px =>
    unfold cTg at ht
    simp only at ht
    split at ht
    · rename_i hx
      simp only [Option.map_eq_some_iff] at ht
      obtain ⟨i, hi, rfl⟩ := ht
      cases v with
      | ListComp elt gs sc2 cpos => cases hg
      | SetComp => cases n <;> simp [cE] at he
      | DictComp => cases n <;> simp [cE] at he
      | _ => exact s_set hv hp rfl rfl rfl
    · cases ht
  | Tuple ts kt pt =>
    cases v with
    | Tuple vs k2 pt2 =>
      have hg : (swP sc ts vs).isSome = true := hg
      cases hr : swP sc ts vs with
      | none => rw [hr] at hg; cases hg
      | some r =>
        have hw := swP_ok (k := kt) (k2 := k2) (p := pt) (p2 := pt2) C.c.hsc C.fk hr
        cases r with
        | none => exact s_set hv hp rfl hw rfl
        | some ns =>
          obtain ⟨e1, e2, e3, e4, e5⟩ := swP_inv hr
          obtain ⟨m, cs, rfl, he1, rfl⟩ := cE_tup he
          have pa := pa_ok (X := X) (T := T) (W := W) (fun _ _ h => cE_star h) (fun e c h => (e_ok m cf sc e c h X W j k C.c).1) he1
          rw [swN_eq] at e4 e5 e1
          generalize (ts.head?.map (·.pos.line)).getD 0 = ln at e4 e5 e1
          match ts, vs, e2, e3, hg, hr, hw, ht, hp, hv, e4, e5, e1, pa with
          | [t1, t2], [v1, v2], _, _, hg, hr, hw, ht, hp, hv, e4, e5, e1, pa =>
            obtain ⟨x, a1, a2, a3⟩ := fm_cons e4
            obtain ⟨y, b1, b2, b3⟩ := fm_cons a2
            rw [a3, b3, List.filterMap_nil] at e1 e5
            subst e1
            obtain ⟨px, rfl, lx⟩ := swF_inv a1
            obtain ⟨py, rfl, ly⟩ := swF_inv b1
            have hxy := dup2 (e5.trans rfl)
            unfold cTg at ht
            simp only at ht
            split at ht
            · simp only [Option.bind_eq_some_iff, Option.map_eq_some_iff] at ht
              obtain ⟨i, hi, j, hj, rfl⟩ := ht
              exact s_par C.c.calm (by rw [C.c.hN]; exact C.c.nd) (by rw [C.c.hN]; exact ixOf_ok hi) (by rw [C.c.hN]; exact ixOf_ok hj) (ix_ne hi hj hxy) (by rw [C.c.hsc]; exact lx) (by rw [C.c.hsc]; exact ly) pa hw rfl
            · cases ht
          | [t1, t2, t3], [v1, v2, v3], _, _, hg, hr, hw, ht, hp, hv, e4, e5, e1, pa =>
            obtain ⟨x, a1, a2, a3⟩ := fm_cons e4
            obtain ⟨y, b1, b2, b3⟩ := fm_cons a2
            obtain ⟨z, c1, c2, c3⟩ := fm_cons b2
            rw [a3, b3, c3, List.filterMap_nil] at e1 e5
            subst e1
            obtain ⟨px, rfl, lx⟩ := swF_inv a1
            obtain ⟨py, rfl, ly⟩ := swF_inv b1
            obtain ⟨pz, rfl, lz⟩ := swF_inv c1
            obtain ⟨hxy, hxz, hyz⟩ := dup3 (e5.trans rfl)
            unfold cTg at ht
            simp only at ht
            split at ht
            · simp only [Option.bind_eq_some_iff, Option.map_eq_some_iff] at ht
              obtain ⟨i, hi, j, hj, l, hl, rfl⟩ := ht
              exact s_par3 C.c.calm (by rw [C.c.hN]; exact C.c.nd) (by rw [C.c.hN]; exact ixOf_ok hi) (by rw [C.c.hN]; exact ixOf_ok hj) (by rw [C.c.hN]; exact ixOf_ok hl) (ix_ne hi hj hxy) (ix_ne hi hl hxz) (ix_ne hj hl hyz) (by rw [C.c.hsc]; exact lx) (by rw [C.c.hsc]; exact ly) (by rw [C.c.hsc]; exact lz) pa hw rfl
            · cases ht
          | [], _, _, e3, _, _, _, _, _, _, _, _, _, _ => simp at e3
          | [_], _, _, e3, _, _, _, _, _, _, _, _, _, _ => simp at e3
          | _ :: _ :: _ :: _ :: _, _, _, e3, _, _, _, _, _, _, _, _, _, _ => simp at e3
          | [_, _], [], e2, _, _, _, _, _, _, _, _, _, _, _ => simp at e2
          | [_, _], [_], e2, _, _, _, _, _, _, _, _, _, _, _ => simp at e2
          | [_, _], _ :: _ :: _ :: _, e2, _, _, _, _, _, _, _, _, _, _, _ => simp at e2
          | [_, _, _], [], e2, _, _, _, _, _, _, _, _, _, _, _ => simp at e2
          | [_, _, _], [_], e2, _, _, _, _, _, _, _, _, _, _, _ => simp at e2
          | [_, _, _], [_, _], e2, _, _, _, _, _, _, _, _, _, _, _ => simp at e2
          | [_, _, _], _ :: _ :: _ :: _ :: _, e2, _, _, _, _, _, _, _, _, _, _, _ => simp at e2
    | _ => exact s_set hv hp rfl rfl rfl
  | _ => simp [cTg] at ht
end
end Mi
set_option Elab.async false
set_option linter.all false
set_option maxRecDepth 100000
set_option maxHeartbeats 4000000
/-! Na: what is read off a statement is right; a def. -/
namespace Mi
open PySem PySem.Spec PyProof.Rows L2 RZ
section
variable {cf : Cf} {N : List Str} {T : TW} {j k : Nat}
theorem sw_not {e : Expr} {l : Nat} {env : Env} (h : isComp e = false) : swapsWith e none l env = pure false := by
  cases e <;> first | rfl | (simp [isComp] at h)
theorem isAdd_inv {e : E} (h : isAdd e = true) : ∃ a b, e = .op .add a b := by
  cases e with
  | op o a b => cases o <;> first | exact ⟨a, b, rfl⟩ | cases h
  | _ => cases h
theorem add_inv {cf : Cf} {N : List Str} {n : Nat} {sc : Scope} {a b : Expr} {p : Pos} {ca cb : E} (h : cE cf N n sc (.BinOp a .Add b p) = some (.op .add ca cb)) : ∃ m, n = m + 1 ∧ cE cf N m sc a = some ca ∧ cE cf N m sc b = some cb := by
  cases n with
  | zero => cases h
  | succ m =>
    refine ⟨m, rfl, ?_⟩
    unfold cE at h
    dsimp only at h
    split at h
    · simp only [Option.bind_eq_some_iff, Option.map_eq_some_iff] at h
      obtain ⟨_, _, _, _, h⟩ := h
      cases h
    · simp only [Option.bind_eq_some_iff, Option.map_eq_some_iff] at h
      obtain ⟨o, _, c1, h1, c2, h2, h⟩ := h
      cases h
      exact ⟨h1, h2⟩
theorem st_ok : ∀ (n : Nat) (sc : Scope) (st : Stmt) (c : St), cS cf N n sc st = some c → ∀ (X : Cx) (W : WX), CxS X cf N sc T W j k → PS X st (tS X.K X.mg T W c)
  | 0, _, _, _, h, _, _, _ => by simp [cS] at h
  | n + 1, sc, st, c, h, X, W, C => by
    have ihE := fun e c h => (e_ok (T := T) n cf sc e c h X W j k C.c)
    have ihS := fun s c h => st_ok n sc s c h X W C
    unfold cS at h
    split at h
    · cases h; exact s_pass
    · cases h; exact s_brk
    · cases h; exact s_cont
    · cases h; exact s_doc
    · split at h
      · rename_i x _ m p2 e p3 _ hg
        obtain ⟨hg1, hg2⟩ := hg
        have hg1 := of_decide_eq_true hg1
        subst hg1
        simp only [Option.bind_eq_some_iff] at h
        obtain ⟨i, hi, h⟩ := h
        split at h
        · simp only [Option.map_eq_some_iff] at h
          obtain ⟨ce, h1, rfl⟩ := h
          obtain ⟨v1, v2, v3, v4⟩ := slot_of hi
          exact s_app (by rw [C.c.hN]; exact v2) (by rw [C.c.hsc]; exact v1) v3 v4 (ihE _ _ h1).1 (star1 (cE_star h1)) hg2
        · cases h
      · cases h
    · split at h
      · cases h
      · rename_i hq
        simp only [Option.map_eq_some_iff] at h
        obtain ⟨ce, h1, rfl⟩ := h
        exact s_expr (ihE _ _ h1).1 (sw_not (by simpa using hq))
    · simp only [Option.map_eq_some_iff] at h
      obtain ⟨ce, h1, rfl⟩ := h
      exact s_ret (ihE _ _ h1).1
    · cases h; exact s_retn
    · split at h
      · cases h
      · rename_i hq
        simp only [Option.bind_eq_some_iff, Option.map_eq_some_iff] at h
        obtain ⟨cc, h1, ca, h2, cb, h3, rfl⟩ := h
        exact s_if ((ihE _ _ h1).2 (by simpa using hq)) (ss_ok ihS h2) (ss_ok ihS h3)
    · simp only [Option.bind_eq_some_iff, Option.map_eq_some_iff] at h
      obtain ⟨ct, h1, ci, h2, cb, h3, rfl⟩ := h
      obtain ⟨p1, p2⟩ := it_ok C.c (fun _ _ h => cE_star h) (fun e c h => (ihE e c h).1) h2
      exact s_for C.po C.c.calm p1 (tg_ok C.c.hN C.c.nd C.c.calm C.loc h1) (ss_ok ihS h3) p2
    · split at h
      · cases h
      · rename_i hq
        simp only [Option.bind_eq_some_iff, Option.map_eq_some_iff] at h
        obtain ⟨cc, h1, cb, h3, rfl⟩ := h
        exact s_while C.po ((ihE _ _ h1).2 (by simpa using hq)) (ss_ok ihS h3)
    · split at h
      · rename_i hg
        cases h
        obtain ⟨Cx, a1, a2, a3, a4⟩ := C.c.excs _ hg.2
        exact s_raise C.c.calm C.c.tk a1 (L2N.pmk_own PySem.F.excBase_ValueError a2 a1 a3 a4 (gl_X C.c hg.1) (gl_of hg.1).2.1)
      · cases h
    · split at h
      · rename_i hg
        simp only [Option.map_eq_some_iff] at h
        obtain ⟨ce, h1, rfl⟩ := h
        obtain ⟨Cc, XD⟩ := C.c.xcs _ hg.2
        have h2 : 2 ≤ k := C.c.xk fun z => by rw [z] at hg; cases hg.2
        exact s_raisep C.c.calm C.c.tk XD (C.c.room.mono h2) (gl_X C.c hg.1) (gl_of hg.1).2.1 (ihE _ _ h1).1 (star1 (cE_star h1))
      · cases h
    · split at h
      · cases h
      · rename_i o i p v _ hq
        simp only [not_or, Bool.not_eq_true] at hq
        simp only [Option.bind_eq_some_iff] at h
        obtain ⟨cv, h1, h⟩ := h
        split at h
        · rename_i m hm
          simp only [Option.map_eq_some_iff] at h
          obtain ⟨ci, h3, rfl⟩ := h
          obtain ⟨x, px, rfl, hsl⟩ := linOf_inv hm
          obtain ⟨v1, v2, v3, v4⟩ := slot_of hsl
          refine s_lput (ihE _ _ h1).1 (by rw [C.c.hN]; exact v2) (by rw [C.c.hsc]; exact v1) v3 v4 (ihE _ _ h3).1 ?_ rfl rfl (fun v => ?_)
          · cases v <;> first | rfl | (simp [isComp] at hq)
          · cases i <;> first | rfl | (simp [isSl] at hq)
        simp only [Option.bind_eq_some_iff, Option.map_eq_some_iff] at h
        obtain ⟨co, h2, ci, h3, rfl⟩ := h
        refine s_put (ihE _ _ h1).1 (ihE _ _ h2).1 (ihE _ _ h3).1 ?_ rfl rfl (fun v => ?_) C.c.tw (by have := C.c.room.un; omega)
        · cases v <;> first | rfl | (simp [isComp] at hq)
        · cases i <;> first | rfl | (simp [isSl] at hq)
    · split at h
      · rename_i x px es pe _ hx
        simp only [Option.bind_eq_some_iff] at h
        obtain ⟨i, hi, h⟩ := h
        split at h
        · simp only [Option.map_eq_some_iff] at h
          obtain ⟨cs, h1, rfl⟩ := h
          exact s_lin (by rw [C.c.hN]; exact C.c.nd) (by rw [C.c.hN]; exact ixOf_ok hi) (C.loc x hx).1 (C.loc x hx).2 (pa_ok (fun _ _ h => cE_star h) (fun e c h => (ihE e c h).1) h1)
        · simp only [Option.map_eq_some_iff] at h
          obtain ⟨ce, h1, rfl⟩ := h
          exact s_set (ihE _ _ h1).1 (tg1 C.c.hN C.c.nd C.loc hx hi) rfl rfl rfl
      · cases h
    · split at h
      · rename_i hx
        simp only [Option.bind_eq_some_iff, Option.map_eq_some_iff] at h
        obtain ⟨i, hi, ce, h1, rfl⟩ := h
        split
        · exact set_linc hx.1 hi hx.2 h1 X W C
        · exact set_lc hx.1 hi hx.2 h1 X W C
      · cases h
    · split at h
      · rename_i hx
        simp only [Option.bind_eq_some_iff, Option.map_eq_some_iff] at h
        obtain ⟨i, hi, ce, h1, rfl⟩ := h
        split
        · rename_i hq
          obtain ⟨ca, cb, rfl⟩ := isAdd_inv hq.2
          obtain ⟨m, rfl, h2, h3⟩ := add_inv h1
          exact s_lincOp (by rw [C.c.hN]; exact C.c.nd) (by rw [C.c.hN]; exact ixOf_ok hi) (C.loc _ hx).1 (C.loc _ hx).2 rfl (e_ok (T := T) m cf sc _ _ h2 X W j k C.c).1 (e_ok (T := T) m cf sc _ _ h3 X W j k C.c).1
        · exact s_set (ihE _ _ h1).1 (tg1 C.c.hN C.c.nd C.loc hx hi) rfl rfl rfl
      · cases h
    · split at h
      · cases h
      · rename_i hq
        simp only [not_or, Bool.not_eq_true, Decidable.not_not] at hq
        obtain ⟨q1, q2, q3⟩ := hq
        simp only [Option.bind_eq_some_iff, Option.map_eq_some_iff] at h
        obtain ⟨ce, h1, ce2, h2, co, h3, ci, h4, co2, h5, ci2, h6, rfl⟩ := h
        rename_i o i p o2 i2 p2 _ _ _ _ _ _ _
        refine s_put2 C.c.calm (ihE _ _ h1).1 (ihE _ _ h2).1 (ihE _ _ h3).1 (ihE _ _ h4).1 (ihE _ _ h5).1 (ihE _ _ h6).1 (star1 (cE_star h1)) (star1 (cE_star h2)) rfl (swP_ok C.c.hsc C.fk q3) rfl (fun v => ?_) (fun v => ?_) rfl rfl rfl rfl C.c.tw (by have := C.c.room.un; omega)
        · cases i <;> first | rfl | (simp [isSl] at q1)
        · cases i2 <;> first | rfl | (simp [isSl] at q2)
    · split at h
      · rename_i hq
        split at h
        · rename_i i j a hm
          simp only [Option.map_eq_some_iff] at h
          obtain ⟨ca, h1, rfl⟩ := h
          obtain ⟨x, px, y, py, kt, pt, pl, k2, p2, rfl, rfl, h2, h3, h4, h5, h6, h7, h8⟩ := setlOf_inv hm
          exact s_setl C.c.calm (by rw [C.c.hN]; exact C.c.nd) (by rw [C.c.hN]; exact ixOf_ok h2) (by rw [C.c.hN]; exact ixOf_ok h3) (ix_ne h2 h3 h5) (by rw [C.c.hsc]; exact h6) (by rw [C.c.hsc]; exact h7) (ihE _ _ h1).1 (star1 h4) (swP_ok C.c.hsc C.fk h8) rfl
        split at h
        · rename_i i j l a hm
          simp only [Option.map_eq_some_iff] at h
          obtain ⟨ca, h1, rfl⟩ := h
          obtain ⟨x, px, y, py, z, pz, kt, pt, pl, pl2, k2, p2, rfl, rfl, h2, h3, h31, h4, h5, h51, h52, h6, h7, h71, h8⟩ := setl2Of_inv hm
          exact s_setl2 C.c.calm (by rw [C.c.hN]; exact C.c.nd) (by rw [C.c.hN]; exact ixOf_ok h2) (by rw [C.c.hN]; exact ixOf_ok h3) (by rw [C.c.hN]; exact ixOf_ok h31) (ix_ne h2 h3 h5) (ix_ne h2 h31 h51) (ix_ne h3 h31 h52) (by rw [C.c.hsc]; exact h6) (by rw [C.c.hsc]; exact h7) (by rw [C.c.hsc]; exact h71) (ihE _ _ h1).1 (star1 h4) (swP_ok C.c.hsc C.fk h8) rfl
        simp only [Option.bind_eq_some_iff, Option.map_eq_some_iff] at h
        obtain ⟨ct, h1, ce, h2, rfl⟩ := h
        exact assign_ok hq h1 h2 X W C
      · cases h
    · cases h
/-- what the surroundings of a def hold -/
structure Wd (P : Program) (w : World) (K : PySem.W.Frag) (mg : Str → Option Value) (base : Heap) (T : TW) (cf : Cf) (j : Nat) : Prop where
  fns : ∀ x a F, cf.fns.lookup x = some (a, F) → ∃ f fd ps, mg x = some (.ref f) ∧ PySem.W.keepIn K (.ref f) = true ∧ Binds K fd ps [] ∧ FnOk P w K mg base (L2N.CX P w) j f fd ps (spF K mg T a F)
  cons : ∀ x d, cf.cons.lookup x = some d → ∃ v u, mg x = some u ∧ RelV v u ∧ ∀ ι Z H, Rp K mg ι Z H d v
  bis : ∀ x ∈ biNames, mg x = none
  excs : ∀ c ∈ cf.excs, ∃ C, mg c = some (.ref C) ∧ PySem.W.excIn K C veB "ValueError.__new__" = true ∧ PySem.W.keepIn K (.ref C) = true ∧ ∀ X : Cx, X.prog = P → X.w = w → X.K = K → X.mg = mg → Raises X (.ref C)
  err : ∀ x nms, cf.err = some (x, nms) → ∃ g pg bg sg fd L cs CE, Mh.ErrD K mg x pg bg sg g fd L cs CE ∧ ∀ c lbl, nms.lookup c = some lbl → ∀ C, mg c = some (.ref C) → Mh.LblE K mg L cs CE C lbl
  xcs : ∀ c ∈ cf.xcs, ∃ C, XcD P w K mg base 1 c C
  tw : T.w = w
/-- the code object of a def that makes lambdas -/
def LamD (base : Heap) (mg : Str → Option Value) (T : TW) (code : Value) (qual : Str) : Prop :=
  ∃ c P, code = .ref c ∧ LamX.TabB base mg c P ∧ (P, qual ++ ".<locals>." ++ "<lambda>") ∈ T.l ∧ ∀ p ∈ T.l, p.1 = P → p.2 = qual ++ ".<locals>." ++ "<lambda>"
theorem def_ok {P : Program} {w : World} {K : PySem.W.Frag} {mg : Str → Option Value} {base : Heap} {cf : Cf} {x qual : Str} {params : Arguments} {body : List Stmt} {scope : Scope} {f : Addr} {fd : FuncData} {ps : List Str} {j k n : Nat} {cb : Ss} {F : Sem}
    (wd : Wd P w K mg base T cf j) (FD : FunD K x qual params body scope [] [] f fd) (S : FnScope N ps scope) (hk : scope.kind = .function) (nd : N.Nodup) (hc : cSsF cf (cS cf N n scope) body = some cb) (hF : F = run ps.length N.length cb) (hjk : j ≤ k) (hk2 : 2 ≤ k) (hl : cf.lam = true → j + 2 ≤ k ∧ LamD base mg T fd.code qual) :
    FnOk P w K mg base (L2N.CX P w) (k + 1) f fd ps (spF K mg T ps.length F) :=
  ok_run FD S hF fun X W e1 e2 e3 e4 e5 e6 e7 e8 hr tk po hfn hcd hq => by
    subst e1 e2 e3 e4 e5
    exact ss_ok (fun s c h => st_ok n scope s c h X W ⟨⟨e6, nd, e7, e8, hr, hjk, tk, wd.fns, wd.cons, wd.bis, fun c h => by
      obtain ⟨C, a1, a2, a3, a4⟩ := wd.excs c h
      exact ⟨C, a1, a2, a3, a4 X rfl rfl rfl rfl⟩, wd.err, fun z => by
      obtain ⟨a, c, P, b1, b2, b3, b4⟩ := hl z
      rw [hcd, hq]
      exact ⟨a, c, P, b1, b2, b3, b4⟩, wd.xcs, fun _ => hk2, wd.tw⟩, po, hfn, hk⟩) hc
end
end Mi
set_option Elab.async false
set_option linter.all false
set_option maxRecDepth 100000
set_option maxHeartbeats 4000000
/-! Hd: the head's facts for the small language; the law's end. -/
namespace Mi
open PySem PySem.Spec PyProof.Rows L2 RZ He
/-! ### constants -/
mutual
def valB (K : PySem.W.Frag) : D → Value → Bool
  | .non, u => relB .non u
  | .bl b, u => relB (.bl b) u
  | .int i, u => relB (.int i) u
  | .str x, u => relB (.str x) u
  | .ty n, u => relB (.ty n) u
  | .tup ds, .ref a => (match K.lookup a with
    | some ⟨.type c, _, .seq its _, _⟩ => decide (c = "tuple") && (decide (its.size ≤ sizeLine) && valsB K ds its.toList)
    | _ => false)
  | _, _ => false
def valsB (K : PySem.W.Frag) : List D → List Value → Bool
  | [], [] => true
  | d :: ds, u :: us => valB K d u && valsB K ds us
  | _, _ => false
end
mutual
theorem valB_ok {K : PySem.W.Frag} {mg : Str → Option Value} : ∀ {d : D} {u : Value}, valB K d u = true → ∃ v, RelV v u ∧ ∀ ι Z H, Rp K mg ι Z H d v
  | .non, u, h => ⟨.non, relB_ok h, fun _ _ _ => rfl⟩
  | .bl b, u, h => ⟨.bl b, relB_ok h, fun _ _ _ => rfl⟩
  | .int b, u, h => ⟨.int b, relB_ok h, fun _ _ _ => rfl⟩
  | .str b, u, h => ⟨.str b, relB_ok h, fun _ _ _ => rfl⟩
  | .ty b, u, h => ⟨.ty b, relB_ok h, fun _ _ _ => rfl⟩
  | .tup ds, .ref a, h => by
    unfold valB at h
    cases q : K.lookup a with
    | none => rw [q] at h; cases h
    | some o =>
      obtain ⟨oc, od, dt, osl⟩ := o
      rw [q] at h
      cases oc with
      | type c =>
        cases dt with
        | seq its n =>
          obtain ⟨h1, h2⟩ := ba (show (decide (c = "tuple") && (decide (its.size ≤ sizeLine) && valsB K ds its.toList)) = true from h)
          obtain ⟨h3, h4⟩ := ba h2
          obtain ⟨vs, r1, r2⟩ := valsB_ok (mg := mg) h4
          exact ⟨.ref a, rfl, fun ι Z H => ⟨a, vs, rfl, .inr ⟨_, its, n, q, congrArg Value.type (of_decide_eq_true h1), rfl, of_decide_eq_true h3, r1⟩, r2 ι Z H⟩⟩
        | _ => cases h
      | _ => cases dt <;> cases h
  | .tup _, .none, h => by cases h
  | .tup _, .bool _, h => by cases h
  | .tup _, .int _ _, h => by cases h
  | .tup _, .str _ _, h => by cases h
  | .tup _, .type _, h => by cases h
  | .tup _, .float _ _, h => by cases h
  | .tup _, .bytes _ _, h => by cases h
  | .tup _, .builtin _, h => by cases h
  | .tup _, .ellipsis, h => by cases h
  | .tup _, .notImplemented, h => by cases h
  | .lst _, u, h => by cases u <;> cases h
  | .obj _, u, h => by cases u <;> cases h
  | .scr _, u, h => by cases u <;> cases h
  | .glo _, u, h => by cases u <;> cases h
theorem valsB_ok {K : PySem.W.Frag} {mg : Str → Option Value} : ∀ {ds : List D} {us : List Value}, valsB K ds us = true → ∃ vs, Vals vs us ∧ ∀ ι Z H, Rps K mg ι Z H ds vs
  | [], [], _ => ⟨[], .nil, fun _ _ _ => rfl⟩
  | d :: ds, u :: us, h => by
    obtain ⟨h1, h2⟩ := ba (show (valB K d u && valsB K ds us) = true from h)
    obtain ⟨v, r1, r2⟩ := valB_ok (mg := mg) h1
    obtain ⟨vs, r3, r4⟩ := valsB_ok (mg := mg) h2
    exact ⟨v :: vs, .cons r1 r3, fun ι Z H => ⟨v, vs, rfl, r2 ι Z H, r4 ι Z H⟩⟩
  | [], _ :: _, h => by cases h
  | _ :: _, [], h => by cases h
end
def conB (K : PySem.W.Frag) (p : Str × D) : Bool := match PySem.W.nsIn K mainGlobals p.1 with
  | some (some u) => valB K p.2 u
  | _ => false
theorem conB_ok {K : PySem.W.Frag} {h : Heap} {mg : Str → Option Value} (X : K.In h) (G : h.Ns mainGlobals mg) {x : Str} {d : D} (c : conB K (x, d) = true) : ∃ v u, mg x = some u ∧ RelV v u ∧ ∀ ι Z H, Rp K mg ι Z H d v := by
  unfold conB at c
  cases q : PySem.W.nsIn K mainGlobals x with
  | none => simp only [q] at c; cases c
  | some r =>
    simp only [q] at c
    cases r with
    | none => cases c
    | some u =>
      obtain ⟨v, r1, r2⟩ := valB_ok (mg := mg) c
      exact ⟨v, u, PySem.W.mg_of X G q, r1, r2⟩
/-! ### names of exceptions -/
def excCB (K : PySem.W.Frag) (D : Addr) : Bool :=
  eqO (PySem.W.findIn K (.ref D) "__getattribute__") (some (some (.builtin "BaseException.__getattribute__"))) && (eqO (PySem.W.findIn K (.ref D) "__getattr__") (some none) && (decide (PySem.W.subIn K (.ref D) (.type "BaseException") = some true) && (PySem.W.hasDictIn K D &&
    (eqO (PySem.W.findIn K (.ref D) "__class__") (some (some (.builtin "object.__class__"))) && (eqO (PySem.W.specialIn K (.builtin "object.__class__") "__get__") (some (some (.builtin "getset_descriptor.__get__"))) &&
    (decide (PySem.W.takesIn K (.builtin "object.__class__") = some true) && decide (PySem.W.mroIn K D (.type "object") = some true)))))))
def clsB (K : PySem.W.Frag) (D : Addr) (c : Str) (b : Bool) : Bool := if c = "ValueError" then eqO (PySem.W.nsIn K mainGlobals c) (some none) && decide (PySem.W.kitOne K (.ref D) (.type "ValueError") = some b)
  else eqO (PySem.W.nsIn K mainGlobals c) (some (some (.ref (ga K c)))) && decide (PySem.W.kitOne K (.ref D) (.ref (ga K c)) = some b)
def clssB (K : PySem.W.Frag) (D : Addr) : List Str → List Bool → Bool
  | [], [] => true
  | c :: cs, b :: bs => clsB K D c b && clssB K D cs bs
  | _, _ => false
/-- the exception class named D: its flags, its label -/
def lblB (K : PySem.W.Frag) (L : Str) (cs : List Str) (CE D : Str) (fl : List Bool) : Bool :=
  decide (PySem.W.exmOne K (.ref (ga K D)) (.ref (ga K CE)) = some true) && (excCB K (ga K D) && (clssB K (ga K D) cs fl && (decide ((Txt.split L " ").length ≤ fl.length) && decide (fl.length ≤ sizeLine))))
/-! ### defs -/
/-- so many values go to the parameters ps -/
abbrev BindOk (x qual : Str) (params : Arguments) (body : List Stmt) (scope : Scope) (ps : List Str) : Prop := ∀ (kV doc pm : Value) (an : Option Addr) (cdv ct : Value) (us : List Value), us.length = ps.length → bindArgs (PySem.W.fnOf x qual params body scope .none kV doc pm an cdv ct) ⟨us, []⟩ = pure (ps.zip us)
def scB (N ps : List Str) (sc : Scope) : Bool :=
  (match sc.kind with | .function => true | _ => false) && (!sc.isCoroutine && (!sc.isGenerator && (decide N.Nodup && (decide (N.take ps.length = ps) && ((ps.all fun x => decide (sc.names.lookup x = some .local) || decide (sc.names.lookup x = some .cell)) && sc.names.all fun y => !decide (y.2 = .free))))))
theorem scB_ok {N ps : List Str} {sc : Scope} (h : scB N ps sc = true) : FnScope N ps sc ∧ sc.kind = .function := by
  unfold scB at h
  obtain ⟨h1, h⟩ := ba h
  obtain ⟨h2, h⟩ := ba h
  obtain ⟨h3, h⟩ := ba h
  obtain ⟨h4, h⟩ := ba h
  obtain ⟨h5, h⟩ := ba h
  obtain ⟨h6, h7⟩ := ba h
  have hk : sc.kind = .function := by
    split at h1
    · assumption
    · cases h1
  refine ⟨⟨hk, by simpa using h2, by simpa using h3, of_decide_eq_true h4, of_decide_eq_true h5, fun x hx => ?_, fun y hy e => ?_⟩, hk⟩
  · have := List.all_eq_true.mp h6 x hx
    simp only [Bool.or_eq_true, decide_eq_true_eq] at this
    exact this
  · have := List.all_eq_true.mp h7 y hy
    simp [e] at this
/-- the def named x, the statement st -/
abbrev dfd (x : Str) (st : Stmt) : DefD := ⟨(x, none), x, x, defArgs st, defBody st, defScope st, [], []⟩
def Cf.at (cf : Cf) (lin : List Nat) (ml : List (Nat × Nat)) (still : List (Nat × List Nat)) (lam : Bool) : Cf := { cf with lin := lin, ml := ml, still := still, lam := lam }
section
variable {P : Program} {w : World} {K : PySem.W.Frag} {mg : Str → Option Value} {base h : Heap} {T : TW} {cf : Cf} {fa : List Fa} {fn : List DefD}
theorem lookup_mem2 {α : Type} {x : Str} {d : α} : ∀ {l : List (Str × α)}, l.lookup x = some d → (x, d) ∈ l
  | [], h => by cases h
  | (y, u) :: r, h => by
    have h2 : (match x == y with | true => some u | false => r.lookup x) = some d := h
    cases q : (x == y) with
    | true =>
      rw [q] at h2
      cases h2
      rw [beq_iff_eq.mp q]
      exact List.mem_cons_self
    | false =>
      rw [q] at h2
      exact List.mem_cons_of_mem _ (lookup_mem2 h2)
/-- what a def promises, and that it can be called -/
def Kn (P : Program) (w : World) (K : PySem.W.Frag) (mg : Str → Option Value) (base : Heap) (T : TW) (j : Nat) (x : Str) (a : Nat) (F : Sem) : Prop :=
  ∃ f fd ps, mg x = some (.ref f) ∧ PySem.W.keepIn K (.ref f) = true ∧ Binds K fd ps [] ∧ FnOk P w K mg base (L2N.CX P w) j f fd ps (spF K mg T a F)
theorem Kn.mono {j k : Nat} {x : Str} {a : Nat} {F : Sem} (h : Kn P w K mg base T j x a F) (hk : j ≤ k) : Kn P w K mg base T k x a F := by
  obtain ⟨f, fd, ps, h1, h2, h3, h4⟩ := h
  exact ⟨f, fd, ps, h1, h2, h3, h4.mono hk⟩
theorem Wd.at {j : Nat} (wd : Wd P w K mg base T cf j) (lin : List Nat) (ml : List (Nat × Nat)) (still : List (Nat × List Nat)) (lam : Bool) : Wd P w K mg base T (cf.at lin ml still lam) j := ⟨wd.fns, wd.cons, wd.bis, wd.excs, wd.err, wd.xcs, wd.tw⟩
theorem Wd.add {j k : Nat} (wd : Wd P w K mg base T cf j) (hk : j ≤ k) {x : Str} {a : Nat} {F : Sem} (h : Kn P w K mg base T k x a F) : Wd P w K mg base T { cf with fns := (x, a, F) :: cf.fns } k := by
  refine ⟨fun y b G e => ?_, wd.cons, wd.bis, wd.excs, wd.err, wd.xcs, wd.tw⟩
  have e : (match y == x with | true => some (a, F) | false => cf.fns.lookup y) = some (b, G) := e
  cases q : (y == x) with
  | true =>
    rw [q] at e
    cases e
    rw [beq_iff_eq.mp q]
    exact h
  | false =>
    rw [q] at e
    obtain ⟨f, fd, ps, h1, h2, h3, h4⟩ := wd.fns y b G e
    exact ⟨f, fd, ps, h1, h2, h3, h4.mono hk⟩
/-- where lambdas are made, by the code object of K -/
theorem kn_of {j n : Nat} (wd : Wd P w K mg base T cf j) (X : K.In h) (G : h.Ns mainGlobals mg) (c : SaysD fa fn K) {x : Str} {st : Stmt} (hd : dfd x st ∈ fn) (hg : Fa.glo x ∈ fa) {ps N : List Str} {lin : List Nat} {ml : List (Nat × Nat)} {still : List (Nat × List Nat)} {lam : Bool} {cb : Ss} {F : Sem}
    (ha : BindOk x x (defArgs st) (defBody st) (defScope st) ps) (hs : scB N ps (defScope st) = true) (hc : cSsF (cf.at lin ml still lam) (cS (cf.at lin ml still lam) N n (defScope st)) (defBody st) = some cb) (hF : F = run ps.length N.length cb)
    (hl : lam = true → ∀ fd, FunD K x x (defArgs st) (defBody st) (defScope st) [] [] (ga K x) fd → LamD base mg T fd.code x) : Kn P w K mg base T (j + 3) x ps.length F := by
  obtain ⟨fd, FD⟩ := c.defs hd
  have FD : FunD K x x (defArgs st) (defBody st) (defScope st) [] [] (ga K x) fd := FD
  obtain ⟨S, hk⟩ := scB_ok hs
  exact ⟨ga K x, fd, ps, He.glo_ok X G (c.facts hg), FD.kp, FD.bindsN ha, def_ok (k := j + 2) (wd.at lin ml still lam) FD S hk S.nd hc hF (by omega) (by omega) (fun z => ⟨Nat.le_refl _, hl z fd FD⟩)⟩
/-- the law's own def -/
theorem kn_law {j n : Nat} {base : Heap} (wd : Wd P w K mg base T cf j) (c : SaysD fa fn K) {x : Str} {st : Stmt} {fd : FuncData} (FD : FunD K x x (defArgs st) (defBody st) (defScope st) [] [] (ga K x) fd) {ps N : List Str} {lin : List Nat} {ml : List (Nat × Nat)} {still : List (Nat × List Nat)} {lam : Bool} {cb : Ss} {F : Sem}
    (hs : scB N ps (defScope st) = true) (hc : cSsF (cf.at lin ml still lam) (cS (cf.at lin ml still lam) N n (defScope st)) (defBody st) = some cb) (hF : F = run ps.length N.length cb) (hl : lam = true → LamD base mg T fd.code x) : FnOk P w K mg base (L2N.CX P w) (j + 3) (ga K x) fd ps (spF K mg T ps.length F) := by
  obtain ⟨S, hk⟩ := scB_ok hs
  exact def_ok (k := j + 2) (wd.at lin ml still lam) FD S hk S.nd hc hF (by omega) (by omega) (fun z => ⟨Nat.le_refl _, hl z⟩)
theorem wd0 (hT : T.w = w) (X : K.In h) (G : h.Ns mainGlobals mg) (c : SaysD fa fn K) (hfn : cf.fns = []) (hb : ∀ x ∈ biNames, Fa.free x ∈ fa) (hc : (cf.cons.all fun p => conB K p) = true) (he : ∀ x ∈ cf.excs, Fa.exc x ∈ fa ∧ Fa.glo x ∈ fa)
    (hr : ∀ x nms, cf.err = some (x, nms) → ∃ g pg bg sg fd L cs CE, Mh.ErrD K mg x pg bg sg g fd L cs CE ∧ ∀ c lbl, nms.lookup c = some lbl → ∀ C, mg c = some (.ref C) → Mh.LblE K mg L cs CE C lbl) (hxc : ∀ c ∈ cf.xcs, ∃ C, XcD P w K mg base 1 c C := by intro c h; cases h) : Wd P w K mg base T cf 0 := by
  refine ⟨fun x a F e => (by rw [hfn] at e; cases e), fun x d e => ?_, fun x hx => He.free_ok X G (c.facts (hb x hx)), fun x hx => ?_, hr, hxc, hT⟩
  · exact conB_ok X G (List.all_eq_true.mp hc _ (lookup_mem2 e))
  · obtain ⟨h1, h2, h3, h4⟩ := He.exc_ok (c.facts (he x hx).1)
    refine ⟨ga K x, He.glo_ok X G (c.facts (he x hx).2), h1, h2, fun Y e1 e2 e3 e4 => ?_⟩
    subst e3
    exact raises_own h3 h4
/-! ### the hook that sees the model's own table too -/
section
def asY (g : Addr → Option Obj) (n : Nat) : List Addr := asD g n ++ [PySem.cStatics]
def obsY (n : Nat) (fa : List Fa) (fn : List DefD) (ts : List Tab) (tf : List Defn) (ex : PySem.W.Frag → Bool) (g : Addr → Option Obj) : AlX := (obsT fa fn ts (frT g (asY g n)), ex (frT g (asY g n)) && tabsB g tf (frT g (asY g n)))
theorem saysY_of {n : Nat} {fa : List Fa} {fn : List DefD} {ts : List Tab} {tf : List Defn} {ex : PySem.W.Frag → Bool} {w : World} {h : Heap} (e : obsY n fa fn ts tf ex h.get? = valX fn ts w) : SaysX fa fn ts tf ex w h (frT h.get? (asY h.get? n)) := by
  have e1 : obsT fa fn ts (frT h.get? (asY h.get? n)) = valT fn ts w := congrArg (fun z : AlX => z.1) e
  have e2 : (ex (frT h.get? (asY h.get? n)) && tabsB h.get? tf (frT h.get? (asY h.get? n))) = true := congrArg (fun z : AlX => z.2) e
  obtain ⟨h1, h2⟩ := ba e2
  have key : ∀ p ∈ tf, PySem.W.codeHdIn (frT h.get? (asY h.get? n)) (cT (frT h.get? (asY h.get? n)) p).1 (cT (frT h.get? (asY h.get? n)) p).2 = true ∧ ∃ o, h.get? (cT (frT h.get? (asY h.get? n)) p).2 = some o ∧ emptyTab o = true := fun p hp => by
    obtain ⟨h3, h4⟩ := ba (List.all_eq_true.mp h2 p hp)
    refine ⟨h3, ?_⟩
    cases q : h.get? (cT (frT h.get? (asY h.get? n)) p).2 with
    | none =>
      rw [q] at h4
      cases h4
    | some o =>
      rw [q] at h4
      exact ⟨o, rfl, h4⟩
  exact ⟨e1, h1, fun p hp => (key p hp).1, fun p hp => by
    obtain ⟨_, o, q, z⟩ := key p hp
    exact frT_none q z, fun p hp => by
    obtain ⟨_, o, q, z⟩ := key p hp
    rw [q, emptyTab_eq z]⟩
def hookY (n : Nat) (fa : List Fa) (fn : List DefD) (ts : List Tab) (tf : List Defn) (ex : PySem.W.Frag → Bool) : PySem.W.Hook where
  α := AlX
  obs := fun s => obsY n fa fn ts tf ex s.heap.get?
  val := fun w => valX fn ts w
  says := (hookX n fa fn ts tf ex).says
  of := fun _ _ e => ⟨_, frT_in, saysY_of e⟩
  keeps := (hookX n fa fn ts tf ex).keeps
theorem obsY_eq {n : Nat} {fa : List Fa} {fn : List DefD} {ts : List Tab} {tf : List Defn} {ex : PySem.W.Frag → Bool} {g : Addr → Option Obj} {s : Shared} (h : ∀ a, g a = s.heap.get? a) : obsY n fa fn ts tf ex g = (hookY n fa fn ts tf ex).obs s := by
  have e : g = s.heap.get? := funext h
  rw [e] <;> rfl
end
/-! ### exceptions with an attribute -/
def oexB (K : PySem.W.Frag) (C : Addr) : Bool := (match K.lookup C with
  | some ⟨.type "type", _, .cls cd, sl⟩ => (match cd.mro, sl.toList with
    | .ref C' :: bm, [_, _, _, _, some (.builtin n), _] => C' == C && n == "ValueError.__new__" && !cd.hasDel && cd.hasDict && PySem.HandSPX.refsVE bm
    | _, _ => false)
  | _ => false) && (decide (PySem.W.findIn K (.ref C) "__setattr__" = some (some (.builtin "object.__setattr__"))) && (decide (PySem.W.subIn K (.ref C) (.type "BaseException") = some true) && (decide (PySem.W.typeIn K (.ref C) = some (.type "type")) && PySem.W.keepIn K (.ref C))))
theorem oexB_ok {C : Addr} (h : oexB K C = true) : OexC K C := by
  unfold oexB at h
  obtain ⟨h1, h⟩ := ba h
  obtain ⟨h2, h⟩ := ba h
  obtain ⟨h3, h⟩ := ba h
  obtain ⟨h4, h5⟩ := ba h
  refine ⟨?_, of_decide_eq_true h2, of_decide_eq_true h3, of_decide_eq_true h4, h5⟩
  split at h1
  · rename_i dd cd sl ho
    split at h1
    · rename_i C' bm k0 k1 k2 k3 n k5 hm hs
      simp only [Bool.and_eq_true, beq_iff_eq, Bool.not_eq_true'] at h1
      obtain ⟨⟨⟨⟨rfl, rfl⟩, hdel⟩, hdi⟩, ht⟩ := h1
      obtain ⟨nm, bs, mro, ns, qn, hd, sn, sub, ab, col, del⟩ := cd
      dsimp only at hm hdel hdi
      subst hm hdel hdi
      have hsl : sl = #[k0, k1, k2, k3, some (.builtin "ValueError.__new__"), k5] := by
        obtain ⟨l⟩ := sl
        simp only at hs
        rw [hs]
      subst hsl
      exact ⟨nm, qn, ns, bs, bm, sn, sub, ab, col, dd, k0, k1, k2, k3, k5, ho, ht⟩
    · cases h1
  · cases h1
def cicB (K : PySem.W.Frag) (C : Addr) : Bool := PySem.W.readsIn K C (.type "type") && (decide (PySem.W.specialIn K (.ref C) "__getattribute__" = some (some (.builtin "type.__getattribute__"))) && (match PySem.W.findCls K (.ref C) (.type "type") "__init__" with
  | some (.val (.builtin n)) => decide (n = "ValueError.__init__")
  | _ => false))
theorem cicB_ok {C : Addr} (h : cicB K C = true) : CiC K C := by
  unfold cicB at h
  obtain ⟨h1, h⟩ := ba h
  obtain ⟨h2, h3⟩ := ba h
  refine ⟨h1, of_decide_eq_true h2, ?_⟩
  split at h3
  · rename_i n hn
    rw [of_decide_eq_true h3] at hn
    exact hn
  · cases h3
/-- the statement of a class's first def -/
abbrev mdd (x : Str) (q : Str) (st : Stmt) : DefD := ⟨(x, some "__init__"), "__init__", q, defArgs st, defBody st, defScope st, [], []⟩
/-- what is looked up of such a class -/
def xcB (K : PySem.W.Frag) (c b : Str) : Bool := oexB K (ga K c) && (decide (PySem.W.findIn K (.ref (ga K c)) (xattr c) = some none) && (decide (PySem.W.findIn K (.ref (ga K c)) "__init__" = some (some (.ref (ma K (ga K c) "__init__")))) && (decide (PySem.W.typeIn K (.ref (ma K (ga K c) "__init__")) = some (.type "function")) && (cicB K (ga K b) && (decide (PySem.W.exmOne K (.ref (ga K c)) (.ref (ga K c)) = some true) && xfB K (ga K c))))))
theorem xcD_of (X : K.In h) (G : h.Ns mainGlobals mg) (c : SaysD fa fn K) {x b q : Str} {st : Stmt} {N : List Str} (hd : mdd x q st ∈ fn) (hg : Fa.glo x ∈ fa) (hb : Fa.glo b ∈ fa) (hx : xcB K x b = true) (hs : scB N N (defScope st) = true)
    (ha : BindOk "__init__" q (defArgs st) (defBody st) (defScope st) N) (hi : iniOf N (defScope st) (defBody st) = some (b, xattr x)) : XcD P w K mg base 1 x (ga K x) := by
  unfold xcB at hx
  obtain ⟨h1, hx⟩ := ba hx
  obtain ⟨h2, hx⟩ := ba hx
  obtain ⟨h3, hx⟩ := ba hx
  obtain ⟨h4, hx⟩ := ba hx
  obtain ⟨h5, hx⟩ := ba hx
  obtain ⟨fd, FD⟩ := c.defs hd
  have FD : FunD K "__init__" q (defArgs st) (defBody st) (defScope st) [] [] (ma K (ga K x) "__init__") fd := FD
  exact ⟨He.glo_ok X G (c.facts hg), oexB_ok h1, of_decide_eq_true h2, _, fd, N, of_decide_eq_true h3, of_decide_eq_true h4, FD.bindsN ha, init_ok (k := 0) FD (scB_ok hs).1 hi (He.glo_ok X G (c.facts hb)) (cicB_ok h5)⟩
/-- try: return f(x) except C as e: return e.line -/
theorem kn_read {j : Nat} (X : K.In h) (G : h.Ns mainGlobals mg) (c : SaysD fa fn K) {x g e b v0 v1 : Str} {st : Stmt} {F : Sem} (hk : Kn P w K mg base T j g 1 F) (hd : dfd x st ∈ fn) (hg : Fa.glo x ∈ fa) (he : Fa.glo e ∈ fa) (hx : xcB K e b = true)
    (ha : BindOk x x (defArgs st) (defBody st) (defScope st) [v0]) (hs : scB [v0, v1] [v0] (defScope st) = true) (hr : readOf [v0, v1] (defScope st) (defBody st) = some (g, e, xattr e)) : Kn P w K mg base T (j + 3) x 1 (readS F e) := by
  unfold xcB at hx
  obtain ⟨h1, hx⟩ := ba hx
  obtain ⟨h2, hx⟩ := ba hx
  obtain ⟨h3, hx⟩ := ba hx
  obtain ⟨h4, hx⟩ := ba hx
  obtain ⟨h5, hx⟩ := ba hx
  obtain ⟨h6, h7⟩ := ba hx
  obtain ⟨fd, FD⟩ := c.defs hd
  have FD : FunD K x x (defArgs st) (defBody st) (defScope st) [] [] (ga K x) fd := FD
  obtain ⟨S, _⟩ := scB_ok hs
  exact ⟨ga K x, fd, [v0], He.glo_ok X G (c.facts hg), FD.kp, FD.bindsN ha, (read_ok (ps := []) (k := j) FD S S.nd hr rfl hk (He.glo_ok X G (c.facts he)) (of_decide_eq_true h6) (xfB_ok h7) (of_decide_eq_true h2) rfl).mono (by omega)⟩
/-! ### the end -/
/-- the tables of the defs tf -/
def tabL (w : World) (K : PySem.W.Frag) (tf : List Str) : TW := ⟨w, tf.map fun x => ((cT K (x, none)).2, x ++ ".<locals>." ++ "<lambda>")⟩
end
/-- the law's end -/
theorem walk_X {l : PySem.W.OpenLaw} {n k : Nat} {q : Program} {loose : List Str} {XP : (Str → Option Value) → Heap → Prop} {d : DefRec} {x lx : Str} {dn : Nat} {fa : List Fa} {fn : List DefD} {tf : List Str} {ex : PySem.W.Frag → Bool} {F : Sem}
    (hn : l.most = some n) (hn2 : n ≤ sizeLine) (hdf : d.params.defaults = []) (hd : d.name = lx) (hr : Room k callerA)
    (hK : ∀ (w : World) (K : PySem.W.Frag) (h : Heap) (mg : Str → Option Value), K.In h → h.Ns mainGlobals mg → SaysD fa fn K → ex K = true →
      ∃ fd, mg lx = some (.ref (ga K lx)) ∧ (∀ (s : Shared) (u : Value), BindsTo s fd ⟨[u], []⟩ [(x, u)]) ∧ ∀ base : Heap, (∀ y ∈ tf, LamX.TabB base mg (cT K (y, none)).1 (cT K (y, none)).2) → FnOk l.prog w K mg base (L2N.CX l.prog w) k (ga K lx) fd [x] (spF K mg (tabL w K tf) 1 F))
    (hF : ∀ ns : List Int, ns.length ≤ n → (∀ z ∈ ns, Builtin.Int.intBits z ≤ 1048576) → ∃ μ, F [.scr ns] [] = some (.ok (.bl true), μ)) :
    PySem.W.WalkO q loose XP (hookX dn fa fn [] (tf.map fun x => (x, none)) ex).says l.row.toRowW d [] (fun f vs => PySem.call f vs) := by
  refine Att.attach_callB hn hdf fun w s₀ s₁ mg mb f o pm cd doc a vs ns G Y ho hd' hcd hmg hobj hints hlen hbits hg => ?_
  obtain ⟨K, KX, S⟩ := Y
  have hc : SaysD fa fn K := S.t.d
  have mem : ∀ y ∈ tf, ((y, none) : Defn) ∈ tf.map fun x => ((x, none) : Defn) := fun y hy => List.mem_map.mpr ⟨y, hy, rfl⟩
  have CH : ∀ p ∈ tf.map (fun x => cT K (x, none)), PySem.W.CodeHd s₁.heap p.1 p.2 := fun p hp => by
    obtain ⟨y, hy, rfl⟩ := List.mem_map.mp hp
    exact PySem.W.codeHd_of_K KX (S.hd _ (mem y hy))
  have hlx : mg lx = some (.ref f) := by rw [← hd]; exact hmg
  obtain ⟨fd, e1, hb, hok⟩ := hK w K s₁.heap mg KX G.T.g hc S.more
  have e2 : f = ga K lx := by
    have := hlx.symm.trans e1
    cases this
    rfl
  rw [e2]
  refine LamX.law_callTs (CX := L2N.CX l.prog w) (sp := spF K mg (tabL w K tf) 1 F) (cs := tf.map fun x => cT K (x, none)) KX G.T.g G.T.b G.T.builtins G.T.nolimit hg (fun p hp => ?_) (fun p hp => ?_) CH G.T.bmain hobj hints (Nat.le_trans hlen hn2) hr (fun base kb nb TB => ?_) hb (fun H hH hS => ?_) (fun H e s' z => ?_)
  · obtain ⟨y, hy, rfl⟩ := List.mem_map.mp hp
    exact S.empty _ (mem y hy)
  · obtain ⟨y, hy, rfl⟩ := List.mem_map.mp hp
    exact S.out _ (mem y hy)
  · exact hok base fun y hy => TB _ (List.mem_map.mpr ⟨y, hy, rfl⟩)
  · obtain ⟨μ, e⟩ := hF _ hlen hbits
    refine ⟨rfl, [], [], [], [.scr ns], ⟨.nil, rfl, fun n m z => (by simp at z), fun z hz => (by cases hz), fun p hp => ?_⟩, ⟨_, _, rfl, ⟨a, rfl, ?_⟩, rfl⟩, ?_⟩
    · obtain ⟨y, hy, rfl⟩ := List.mem_map.mp hp
      exact LamX.TabS.nil (hH _ (List.mem_map.mpr ⟨y, hy, rfl⟩))
    · rcases hS with hS | hS
      · exact .inl ⟨hS, by simp, by simp⟩
      · exact .inr hS
    · rw [e]
      exact fun ι' v H' _ _ r => r
  · obtain ⟨_, _, _, _, _, _, _, _, _, _, _, _, z⟩ := z
    exact z
/-- the same, where the hook sees more -/
theorem walk_Y {l : PySem.W.OpenLaw} {n k : Nat} {q : Program} {loose : List Str} {XP : (Str → Option Value) → Heap → Prop} {d : DefRec} {x lx : Str} {dn : Nat} {fa : List Fa} {fn : List DefD} {tf : List Str} {ex : PySem.W.Frag → Bool} {F : Sem}
    (hn : l.most = some n) (hn2 : n ≤ sizeLine) (hdf : d.params.defaults = []) (hd : d.name = lx) (hr : Room k callerA)
    (hK : ∀ (w : World) (K : PySem.W.Frag) (h : Heap) (mg : Str → Option Value), K.In h → h.Ns mainGlobals mg → SaysD fa fn K → ex K = true →
      ∃ fd, mg lx = some (.ref (ga K lx)) ∧ (∀ (s : Shared) (u : Value), BindsTo s fd ⟨[u], []⟩ [(x, u)]) ∧ ∀ base : Heap, (∀ y ∈ tf, LamX.TabB base mg (cT K (y, none)).1 (cT K (y, none)).2) → FnOk l.prog w K mg base (L2N.CX l.prog w) k (ga K lx) fd [x] (spF K mg (tabL w K tf) 1 F))
    (hF : ∀ ns : List Int, ns.length ≤ n → (∀ z ∈ ns, Builtin.Int.intBits z ≤ 1048576) → ∃ μ, F [.scr ns] [] = some (.ok (.bl true), μ)) :
    PySem.W.WalkO q loose XP (hookY dn fa fn [] (tf.map fun x => (x, none)) ex).says l.row.toRowW d [] (fun f vs => PySem.call f vs) := walk_X (dn := dn) hn hn2 hdf hd hr hK hF
end Mi
set_option Elab.async false
set_option linter.all false
set_option maxRecDepth 100000
/-! Pg: what the defs of the package and of the laws read as, each once (made by wip/genpg.py). -/
namespace Pg
open PySem PySem.Spec L2 Mi
def N_is_whole : List Str := [("value" : Str), ("low" : Str), ("high" : Str)]
def B_is_whole : Ss := (.cons (.ret (.and_ (.bi .isi (.cons (.var 0) (.cons (.con (.ty "int")) .nil))) (.and_ (.not_ (.bi .isi (.cons (.var 0) (.cons (.con (.ty "bool")) .nil)))) (.chain (.cm .le) (.cm .le) (.var 1) (.var 0) (.var 2))))) .nil)
def Fis_whole : Sem := run 3 3 B_is_whole
def N_is_word : List Str := [("value" : Str), ("words" : Str)]
def B_is_word : Ss := (.cons (.ret (.and_ (.bi .isi (.cons (.var 0) (.cons (.con (.ty "str")) .nil))) (.op .in_ (.var 0) (.var 1)))) .nil)
def Fis_word : Sem := run 2 2 B_is_word
def N_is_source : List Str := [("board" : Str), ("when" : Str), ("value" : Str)]
def B_is_source : Ss := (.cons (.ite (.bi .isi (.cons (.var 2) (.cons (.con (.ty "str")) .nil))) (.cons (.ret (.and_ (.op .in_ (.var 2) (.tup (.cons (.con (.str "x")) (.cons (.con (.str "y")) .nil)))) (.op .nin (.var 1) (.tup (.cons (.con (.str "minor")) (.cons (.con (.str "major")) .nil)))))) .nil) .nil) (.cons (.ret (.call Fis_whole (.cons (.var 2) (.cons (.con (.int (0))) (.cons (.op .sub (.idx (.var 0) (.con (.int (0)))) (.con (.int (1)))) .nil))))) .nil))
def Fis_source : Sem := run 3 3 B_is_source
def N_is_printing : List Str := [("board" : Str), ("when" : Str), ("value" : Str), ("item" : Str)]
def B_is_printing : Ss := (.cons (.ite (.or_ (.not_ (.bi .isi (.cons (.var 2) (.cons (.con (.ty "tuple")) .nil)))) (.not_ (.chain (.cm .le) (.cm .le) (.con (.int (1))) (.bi .len (.cons (.var 2) .nil)) (.con (.int (3)))))) (.cons (.ret (.con (.bl false))) .nil) .nil) (.cons (.ret (.op .eq (.comp (.var 3) (.name 3) (.seq (.var 2)) (.not_ (.call Fis_source (.cons (.var 0) (.cons (.var 1) (.cons (.var 3) .nil))))) [3]) (.lst .nil))) .nil))
def Fis_printing : Sem := run 3 4 B_is_printing
def N_is_action : List Str := [("board" : Str), ("when" : Str), ("value" : Str)]
def B_is_action : Ss := (.cons (.ite (.or_ (.not_ (.bi .isi (.cons (.var 2) (.cons (.con (.ty "tuple")) .nil)))) (.or_ (.op .eq (.var 2) (.tup .nil)) (.not_ (.bi .isi (.cons (.idx (.var 2) (.con (.int (0)))) (.cons (.con (.ty "str")) .nil)))))) (.cons (.ret (.con (.bl false))) .nil) .nil) (.cons (.ite (.op .in_ (.idx (.var 2) (.con (.int (0)))) (.tup (.cons (.con (.str "add")) (.cons (.con (.str "less")) .nil)))) (.cons (.ret (.and_ (.op .eq (.bi .len (.cons (.var 2) .nil)) (.con (.int (3)))) (.and_ (.call Fis_source (.cons (.var 0) (.cons (.var 1) (.cons (.idx (.var 2) (.con (.int (1)))) .nil)))) (.call Fis_whole (.cons (.idx (.var 2) (.con (.int (2)))) (.cons (.con (.int (0))) (.cons (.op .sub (.idx (.var 0) (.con (.int (0)))) (.con (.int (1)))) .nil))))))) .nil) .nil) (.cons (.ite (.op .eq (.idx (.var 2) (.con (.int (0)))) (.con (.str "clear"))) (.cons (.ret (.and_ (.op .eq (.bi .len (.cons (.var 2) .nil)) (.con (.int (2)))) (.call Fis_whole (.cons (.idx (.var 2) (.con (.int (1)))) (.cons (.con (.int (0))) (.cons (.op .sub (.idx (.var 0) (.con (.int (0)))) (.con (.int (1)))) .nil)))))) .nil) .nil) (.cons (.ite (.op .eq (.idx (.var 2) (.con (.int (0)))) (.con (.str "set"))) (.cons (.ret (.and_ (.op .eq (.bi .len (.cons (.var 2) .nil)) (.con (.int (3)))) (.and_ (.call Fis_whole (.cons (.idx (.var 2) (.con (.int (1)))) (.cons (.con (.int (0))) (.cons (.op .sub (.idx (.var 0) (.con (.int (1)))) (.con (.int (1)))) .nil)))) (.bi .isi (.cons (.idx (.var 2) (.con (.int (2)))) (.cons (.con (.ty "bool")) .nil)))))) .nil) .nil) (.cons (.ret (.and_ (.op .eq (.idx (.var 2) (.con (.int (0)))) (.con (.str "print"))) (.and_ (.op .eq (.bi .len (.cons (.var 2) .nil)) (.con (.int (2)))) (.call Fis_printing (.cons (.var 0) (.cons (.var 1) (.cons (.idx (.var 2) (.con (.int (1)))) .nil))))))) .nil)))))
def Fis_action : Sem := run 3 3 B_is_action
def N_is_wire : List Str := [("board" : Str), ("value" : Str)]
def B_is_wire : Ss := (.cons (.ite (.or_ (.not_ (.bi .isi (.cons (.var 1) (.cons (.con (.ty "tuple")) .nil)))) (.or_ (.op .ne (.bi .len (.cons (.var 1) .nil)) (.con (.int (3)))) (.not_ (.call Fis_word (.cons (.idx (.var 1) (.con (.int (0)))) (.cons (.con (.tup [(.str "card"), (.str "hole"), (.str "plain"), (.str "minor"), (.str "major")])) .nil)))))) (.cons (.ret (.con (.bl false))) .nil) .nil) (.cons (.ite (.op .isn (.idx (.var 1) (.con (.int (1)))) (.con .non)) (.cons (.ite (.or_ (.not_ (.bi .isi (.cons (.idx (.var 1) (.con (.int (1)))) (.cons (.con (.ty "tuple")) .nil)))) (.or_ (.op .ne (.bi .len (.cons (.idx (.var 1) (.con (.int (1)))) .nil)) (.con (.int (2)))) (.not_ (.bi .isi (.cons (.idx (.idx (.var 1) (.con (.int (1)))) (.con (.int (1)))) (.cons (.con (.ty "bool")) .nil)))))) (.cons (.ret (.con (.bl false))) .nil) .nil) (.cons (.ite (.not_ (.call Fis_whole (.cons (.idx (.idx (.var 1) (.con (.int (1)))) (.con (.int (0)))) (.cons (.con (.int (0))) (.cons (.op .sub (.idx (.var 0) (.con (.int (1)))) (.con (.int (1)))) .nil))))) (.cons (.ret (.con (.bl false))) .nil) .nil) .nil)) .nil) (.cons (.ret (.call Fis_action (.cons (.var 0) (.cons (.idx (.var 1) (.con (.int (0)))) (.cons (.idx (.var 1) (.con (.int (2)))) .nil))))) .nil)))
def Fis_wire : Sem := run 2 2 B_is_wire
def N_is_board : List Str := [("value" : Str), ("wire" : Str)]
def B_is_board : Ss := (.cons (.ite (.or_ (.not_ (.bi .isi (.cons (.var 0) (.cons (.con (.ty "tuple")) .nil)))) (.op .ne (.bi .len (.cons (.var 0) .nil)) (.con (.int (3))))) (.cons (.ret (.con (.bl false))) .nil) .nil) (.cons (.ite (.or_ (.not_ (.call Fis_whole (.cons (.idx (.var 0) (.con (.int (0)))) (.cons (.con (.int (0))) (.cons (.con (.int (3))) .nil))))) (.not_ (.call Fis_whole (.cons (.idx (.var 0) (.con (.int (1)))) (.cons (.con (.int (0))) (.cons (.con (.int (2))) .nil)))))) (.cons (.ret (.con (.bl false))) .nil) .nil) (.cons (.ite (.or_ (.not_ (.bi .isi (.cons (.idx (.var 0) (.con (.int (2)))) (.cons (.con (.ty "tuple")) .nil)))) (.op (.cm .gt) (.bi .len (.cons (.idx (.var 0) (.con (.int (2)))) .nil)) (.con (.int (8))))) (.cons (.ret (.con (.bl false))) .nil) .nil) (.cons (.ret (.op .eq (.comp (.var 1) (.name 1) (.seq (.idx (.var 0) (.con (.int (2))))) (.not_ (.call Fis_wire (.cons (.var 0) (.cons (.var 1) .nil)))) [1]) (.lst .nil))) .nil))))
def Fis_board : Sem := run 1 2 B_is_board
def N__law_vat : List Str := [("script" : Str), ("k" : Str), ("cell" : Str)]
def B__law_vat : Ss := (.cons (.set (.name 2) (.op .add (.op .mul (.con (.int (7919))) (.var 1)) (.con (.int (43))))) (.cons (.ite (.op (.cm .lt) (.var 1) (.bi .len (.cons (.var 0) .nil))) (.cons (.set (.name 2) (.bi .abs (.cons (.bi .int (.cons (.idx (.var 0) (.var 1)) .nil)) .nil))) .nil) .nil) (.cons (.ret (.mlst (.cons (.ite (.op (.cm .ge) (.var 2) (.op .pow (.con (.int (10))) (.con (.int (18))))) (.var 2) (.con (.int (0)))) (.cons (.op .add (.op .mod (.bi .int (.cons (.op .add (.op .add (.op .mul (.var 2) (.con (.int (131071)))) (.op .mul (.con (.int (8191))) (.var 1))) (.con (.int (5)))) .nil)) (.con (.int (2147483629)))) (.con (.int (1)))) .nil)))) .nil)))
def F_law_vat : Sem := run 2 3 B__law_vat
def N__law_under : List Str := [("vat" : Str), ("many" : Str), ("found" : Str), ("wide" : Str)]
def B__law_under : Ss := (.cons (.ite (.op (.cm .gt) (.idx (.var 0) (.con (.int (0)))) (.con (.int (0)))) (.cons (.set (.name 2) (.op .mod (.bi .int (.cons (.idx (.var 0) (.con (.int (0)))) .nil)) (.var 1))) (.cons (.put (.var 0) (.con (.int (0))) (.op .fdiv (.idx (.var 0) (.con (.int (0)))) (.var 1))) (.cons (.ret (.var 2)) .nil))) .nil) (.cons (.put (.var 0) (.con (.int (1))) (.op .mod (.bi .int (.cons (.op .add (.op .mul (.idx (.var 0) (.con (.int (1)))) (.con (.int (39373)))) (.con (.int (101)))) .nil)) (.con (.int (2147483629))))) (.cons (.set (.name 3) (.op .mod (.bi .int (.cons (.op .mul (.idx (.var 0) (.con (.int (1)))) (.op .add (.op .fdiv (.idx (.var 0) (.con (.int (1)))) (.con (.int (5)))) (.con (.int (9))))) .nil)) (.con (.int (2147483587))))) (.cons (.ret (.op .mod (.bi .int (.cons (.op .fdiv (.var 3) (.con (.int (32)))) .nil)) (.var 1))) .nil))))
def F_law_under : Sem := run 2 4 B__law_under
def N__law_some : List Str := [("vat" : Str), ("things" : Str)]
def B__law_some : Ss := (.cons (.ret (.idx (.var 1) (.call F_law_under (.cons (.var 0) (.cons (.bi .len (.cons (.var 1) .nil)) .nil))))) .nil)
def F_law_some : Sem := run 2 2 B__law_some
def N__law_is_whole : List Str := [("value" : Str), ("low" : Str), ("high" : Str)]
def B__law_is_whole : Ss := (.cons (.ret (.and_ (.bi .isi (.cons (.var 0) (.cons (.con (.ty "int")) .nil))) (.and_ (.not_ (.bi .isi (.cons (.var 0) (.cons (.con (.ty "bool")) .nil)))) (.chain (.cm .le) (.cm .le) (.var 1) (.var 0) (.var 2))))) .nil)
def F_law_is_whole : Sem := run 3 3 B__law_is_whole
def N__law_is_one_of : List Str := [("value" : Str), ("some" : Str)]
def B__law_is_one_of : Ss := (.cons (.ret (.and_ (.bi .isi (.cons (.var 0) (.cons (.con (.ty "str")) .nil))) (.op .in_ (.var 0) (.var 1)))) .nil)
def F_law_is_one_of : Sem := run 2 2 B__law_is_one_of
def N__law_is_from : List Str := [("frame" : Str), ("when" : Str), ("value" : Str)]
def B__law_is_from : Ss := (.cons (.ite (.bi .isi (.cons (.var 2) (.cons (.con (.ty "str")) .nil))) (.cons (.ret (.and_ (.op .in_ (.var 2) (.lst (.cons (.con (.str "x")) (.cons (.con (.str "y")) .nil)))) (.op .in_ (.var 1) (.lst (.cons (.con (.str "card")) (.cons (.con (.str "hole")) (.cons (.con (.str "plain")) .nil))))))) .nil) .nil) (.cons (.ret (.call F_law_is_whole (.cons (.var 2) (.cons (.con (.int (0))) (.cons (.op .sub (.idx (.var 0) (.con (.int (0)))) (.con (.int (1)))) .nil))))) .nil))
def F_law_is_from : Sem := run 3 3 B__law_is_from
def N__law_is_act : List Str := [("frame" : Str), ("when" : Str), ("value" : Str), ("item" : Str)]
def B__law_is_act : Ss := (.cons (.ite (.or_ (.not_ (.bi .isi (.cons (.var 2) (.cons (.con (.ty "tuple")) .nil)))) (.or_ (.op .nin (.bi .len (.cons (.var 2) .nil)) (.tup (.cons (.con (.int (2))) (.cons (.con (.int (3))) .nil)))) (.not_ (.bi .isi (.cons (.idx (.var 2) (.con (.int (0)))) (.cons (.con (.ty "str")) .nil)))))) (.cons (.ret (.con (.bl false))) .nil) .nil) (.cons (.ite (.op .eq (.bi .len (.cons (.var 2) .nil)) (.con (.int (2)))) (.cons (.ite (.op .eq (.idx (.var 2) (.con (.int (0)))) (.con (.str "clear"))) (.cons (.ret (.call F_law_is_whole (.cons (.idx (.var 2) (.con (.int (1)))) (.cons (.con (.int (0))) (.cons (.op .sub (.idx (.var 0) (.con (.int (0)))) (.con (.int (1)))) .nil))))) .nil) .nil) (.cons (.ite (.or_ (.op .ne (.idx (.var 2) (.con (.int (0)))) (.con (.str "print"))) (.or_ (.not_ (.bi .isi (.cons (.idx (.var 2) (.con (.int (1)))) (.cons (.con (.ty "tuple")) .nil)))) (.not_ (.chain (.cm .le) (.cm .le) (.con (.int (1))) (.bi .len (.cons (.idx (.var 2) (.con (.int (1)))) .nil)) (.con (.int (3))))))) (.cons (.ret (.con (.bl false))) .nil) .nil) (.cons (.ret (.op .eq (.comp (.var 3) (.name 3) (.seq (.idx (.var 2) (.con (.int (1))))) (.not_ (.call F_law_is_from (.cons (.var 0) (.cons (.var 1) (.cons (.var 3) .nil))))) [3]) (.lst .nil))) .nil))) .nil) (.cons (.ite (.op .eq (.idx (.var 2) (.con (.int (0)))) (.con (.str "set"))) (.cons (.ret (.and_ (.call F_law_is_whole (.cons (.idx (.var 2) (.con (.int (1)))) (.cons (.con (.int (0))) (.cons (.op .sub (.idx (.var 0) (.con (.int (1)))) (.con (.int (1)))) .nil)))) (.bi .isi (.cons (.idx (.var 2) (.con (.int (2)))) (.cons (.con (.ty "bool")) .nil))))) .nil) .nil) (.cons (.ite (.op .nin (.idx (.var 2) (.con (.int (0)))) (.tup (.cons (.con (.str "add")) (.cons (.con (.str "less")) .nil)))) (.cons (.ret (.con (.bl false))) .nil) .nil) (.cons (.ret (.and_ (.call F_law_is_from (.cons (.var 0) (.cons (.var 1) (.cons (.idx (.var 2) (.con (.int (1)))) .nil)))) (.call F_law_is_whole (.cons (.idx (.var 2) (.con (.int (2)))) (.cons (.con (.int (0))) (.cons (.op .sub (.idx (.var 0) (.con (.int (0)))) (.con (.int (1)))) .nil)))))) .nil)))))
def F_law_is_act : Sem := run 3 4 B__law_is_act
def N__law_is_wire : List Str := [("frame" : Str), ("value" : Str), ("switch" : Str)]
def B__law_is_wire : Ss := (.cons (.ite (.or_ (.not_ (.bi .isi (.cons (.var 1) (.cons (.con (.ty "tuple")) .nil)))) (.op .ne (.bi .len (.cons (.var 1) .nil)) (.con (.int (3))))) (.cons (.ret (.con (.bl false))) .nil) .nil) (.cons (.ite (.not_ (.call F_law_is_one_of (.cons (.idx (.var 1) (.con (.int (0)))) (.cons (.lst (.cons (.con (.str "card")) (.cons (.con (.str "hole")) (.cons (.con (.str "plain")) (.cons (.con (.str "minor")) (.cons (.con (.str "major")) .nil)))))) .nil)))) (.cons (.ret (.con (.bl false))) .nil) .nil) (.cons (.set (.name 2) (.idx (.var 1) (.con (.int (1))))) (.cons (.ite (.op .isn (.var 2) (.con .non)) (.cons (.ite (.or_ (.not_ (.bi .isi (.cons (.var 2) (.cons (.con (.ty "tuple")) .nil)))) (.or_ (.op .ne (.bi .len (.cons (.var 2) .nil)) (.con (.int (2)))) (.not_ (.bi .isi (.cons (.idx (.var 2) (.con (.int (1)))) (.cons (.con (.ty "bool")) .nil)))))) (.cons (.ret (.con (.bl false))) .nil) .nil) (.cons (.ite (.not_ (.call F_law_is_whole (.cons (.idx (.var 2) (.con (.int (0)))) (.cons (.con (.int (0))) (.cons (.op .sub (.idx (.var 0) (.con (.int (1)))) (.con (.int (1)))) .nil))))) (.cons (.ret (.con (.bl false))) .nil) .nil) .nil)) .nil) (.cons (.ret (.call F_law_is_act (.cons (.var 0) (.cons (.idx (.var 1) (.con (.int (0)))) (.cons (.idx (.var 1) (.con (.int (2)))) .nil))))) .nil)))))
def F_law_is_wire : Sem := run 2 3 B__law_is_wire
def N__law_is_board : List Str := [("value" : Str), ("wire" : Str)]
def B__law_is_board : Ss := (.cons (.ite (.or_ (.not_ (.bi .isi (.cons (.var 0) (.cons (.con (.ty "tuple")) .nil)))) (.op .ne (.bi .len (.cons (.var 0) .nil)) (.con (.int (3))))) (.cons (.ret (.con (.bl false))) .nil) .nil) (.cons (.ite (.or_ (.not_ (.call F_law_is_whole (.cons (.idx (.var 0) (.con (.int (0)))) (.cons (.con (.int (0))) (.cons (.con (.int (3))) .nil))))) (.not_ (.call F_law_is_whole (.cons (.idx (.var 0) (.con (.int (1)))) (.cons (.con (.int (0))) (.cons (.con (.int (2))) .nil)))))) (.cons (.ret (.con (.bl false))) .nil) .nil) (.cons (.ite (.or_ (.not_ (.bi .isi (.cons (.idx (.var 0) (.con (.int (2)))) (.cons (.con (.ty "tuple")) .nil)))) (.op (.cm .gt) (.bi .len (.cons (.idx (.var 0) (.con (.int (2)))) .nil)) (.con (.int (8))))) (.cons (.ret (.con (.bl false))) .nil) .nil) (.cons (.ret (.op .eq (.comp (.var 1) (.name 1) (.seq (.idx (.var 0) (.con (.int (2))))) (.not_ (.call F_law_is_wire (.cons (.slc (.var 0) .no (.yes (.con (.int (2))))) (.cons (.var 1) .nil)))) [1]) (.lst .nil))) .nil))))
def F_law_is_board : Sem := run 1 2 B__law_is_board
def N__law_act : List Str := [("vat" : Str), ("frame" : Str), ("when" : Str), ("counters" : Str), ("switches" : Str), ("some" : Str), ("way" : Str), ("word" : Str), ("many" : Str), ("item" : Str)]
def B__law_act : Ss := (.cons (.set (.pair (.name 3) (.name 4)) (.var 1)) (.cons (.set (.pair (.name 5) (.name 6)) (.tup (.cons (.lrng (.var 3)) (.cons (.call F_law_under (.cons (.var 0) (.cons (.con (.int (9))) .nil))) .nil)))) (.cons (.ite (.op .in_ (.var 2) (.lst (.cons (.con (.str "card")) (.cons (.con (.str "hole")) (.cons (.con (.str "plain")) .nil))))) (.cons (.set (.name 5) (.op .add (.var 5) (.lst (.cons (.con (.str "x")) (.cons (.con (.str "y")) (.cons (.con (.str "x")) .nil)))))) .nil) .nil) (.cons (.ite (.and_ (.op (.cm .gt) (.var 3) (.con (.int (0)))) (.op (.cm .lt) (.var 6) (.con (.int (4))))) (.cons (.set (.name 7) (.call F_law_some (.cons (.var 0) (.cons (.lst (.cons (.con (.str "add")) (.cons (.con (.str "add")) (.cons (.con (.str "less")) .nil)))) .nil)))) (.cons (.ret (.tup (.cons (.var 7) (.cons (.call F_law_some (.cons (.var 0) (.cons (.var 5) .nil))) (.cons (.call F_law_under (.cons (.var 0) (.cons (.var 3) .nil))) .nil))))) .nil)) .nil) (.cons (.ite (.and_ (.op (.cm .gt) (.var 3) (.con (.int (0)))) (.op .eq (.var 6) (.con (.int (4))))) (.cons (.ret (.tup (.cons (.con (.str "clear")) (.cons (.call F_law_under (.cons (.var 0) (.cons (.var 3) .nil))) .nil)))) .nil) .nil) (.cons (.ite (.and_ (.op (.cm .gt) (.var 4) (.con (.int (0)))) (.op (.cm .lt) (.var 6) (.con (.int (7))))) (.cons (.ret (.tup (.cons (.con (.str "set")) (.cons (.call F_law_under (.cons (.var 0) (.cons (.var 4) .nil))) (.cons (.op (.cm .gt) (.call F_law_under (.cons (.var 0) (.cons (.con (.int (3))) .nil))) (.con (.int (0)))) .nil))))) .nil) .nil) (.cons (.ite (.op .eq (.var 5) (.lst .nil)) (.cons (.ret (.tup .nil)) .nil) .nil) (.cons (.set (.name 8) (.call F_law_some (.cons (.var 0) (.cons (.lst (.cons (.con (.int (1))) (.cons (.con (.int (1))) (.cons (.con (.int (2))) (.cons (.con (.int (3))) .nil))))) .nil)))) (.cons (.ret (.tup (.cons (.con (.str "print")) (.cons (.bi .tuple (.cons (.comp (.call F_law_some (.cons (.var 0) (.cons (.var 5) .nil))) (.name 9) (.rng (.var 8)) (.con (.bl true)) [9]) .nil)) .nil)))) .nil)))))))))
def F_law_act : Sem := run 3 10 B__law_act
def N__law_wire : List Str := [("vat" : Str), ("frame" : Str), ("when" : Str), ("switch" : Str), ("act" : Str)]
def B__law_wire : Ss := (.cons (.set (.name 2) (.call F_law_some (.cons (.var 0) (.cons (.lst (.cons (.con (.str "card")) (.cons (.con (.str "card")) (.cons (.con (.str "hole")) (.cons (.con (.str "plain")) (.cons (.con (.str "minor")) (.cons (.con (.str "minor")) (.cons (.con (.str "major")) .nil)))))))) .nil)))) (.cons (.set (.pair (.name 3) (.name 4)) (.tup (.cons (.con .non) (.cons (.call F_law_act (.cons (.var 0) (.cons (.var 1) (.cons (.var 2) .nil)))) .nil)))) (.cons (.ite (.and_ (.op (.cm .gt) (.idx (.var 1) (.con (.int (1)))) (.con (.int (0)))) (.op .eq (.call F_law_under (.cons (.var 0) (.cons (.con (.int (3))) .nil))) (.con (.int (0))))) (.cons (.set (.name 3) (.tup (.cons (.call F_law_under (.cons (.var 0) (.cons (.idx (.var 1) (.con (.int (1)))) .nil))) (.cons (.op .eq (.call F_law_under (.cons (.var 0) (.cons (.con (.int (2))) .nil))) (.con (.int (0)))) .nil)))) .nil) .nil) (.cons (.ret (.ite (.op .ne (.var 4) (.tup .nil)) (.tup (.cons (.var 2) (.cons (.var 3) (.cons (.var 4) .nil)))) (.tup .nil))) .nil))))
def F_law_wire : Sem := run 2 5 B__law_wire
def N__law_board : List Str := [("vat" : Str), ("most" : Str), ("frame" : Str), ("wires" : Str), ("turn" : Str), ("wire" : Str)]
def B__law_board : Ss := (.cons (.set (.name 2) (.tup (.cons (.call F_law_some (.cons (.var 0) (.cons (.lst (.cons (.con (.int (0))) (.cons (.con (.int (1))) (.cons (.con (.int (1))) (.cons (.con (.int (2))) (.cons (.con (.int (2))) .nil)))))) .nil))) (.cons (.call F_law_some (.cons (.var 0) (.cons (.lst (.cons (.con (.int (0))) (.cons (.con (.int (0))) (.cons (.con (.int (1))) .nil)))) .nil))) .nil)))) (.cons (.set (.name 3) (.comp (.call F_law_wire (.cons (.var 0) (.cons (.var 2) .nil))) (.name 4) (.rng (.call F_law_under (.cons (.var 0) (.cons (.op .add (.var 1) (.con (.int (1)))) .nil)))) (.con (.bl true)) [4])) (.cons (.ret (.op .add (.var 2) (.tup (.cons (.bi .tuple (.cons (.comp (.var 5) (.name 5) (.seq (.var 3)) (.op .ne (.var 5) (.tup .nil)) [5]) .nil)) .nil)))) .nil)))
def F_law_board : Sem := run 2 6 B__law_board
def N__law_odd : List Str := [("vat" : Str), ("depth" : Str), ("some" : Str), ("row" : Str), ("part" : Str)]
def B0__law_odd : Ss := (.cons (.set (.name 2) (.lst (.cons (.con .non) (.cons (.con (.bl true)) (.cons (.con (.bl false)) (.cons (.con (.int (0))) (.cons (.con (.int (1))) (.cons (.con (.int (2))) (.cons (.con (.int (3))) (.cons (.neg (.con (.int (1)))) (.cons (.op .pow (.con (.int (10))) (.con (.int (31)))) (.cons (.con (.str "")) (.cons (.con (.str "x")) (.cons (.con (.str "y")) (.cons (.con (.str "card")) (.cons (.con (.str "minor")) (.cons (.con (.str "print")) (.cons (.con (.str "set")) (.cons (.tup .nil) (.cons (.lst .nil) .nil)))))))))))))))))))) (.cons (.set (.name 2) (.op .add (.var 2) (.lst (.cons (.tup (.cons (.con (.int (0))) (.cons (.con (.bl true)) .nil))) (.cons (.tup (.cons (.con (.str "print")) (.cons (.tup (.cons (.con (.str "x")) .nil)) .nil))) (.cons (.tup (.cons (.con (.str "add")) (.cons (.con (.str "x")) (.cons (.con (.int (0))) .nil)))) (.cons (.tup (.cons (.con (.str "none")) (.cons (.con (.bl true)) .nil))) (.cons (.tup (.cons (.con (.int (1))) (.cons (.con (.int (1))) (.cons (.con (.bl true)) (.cons (.con (.int (2))) (.cons (.con (.int (3))) .nil)))))) (.cons (.tup (.cons (.con (.int (0))) (.cons (.con (.int (0))) (.cons (.tup .nil) .nil)))) .nil))))))))) (.cons (.ite (.or_ (.op .eq (.var 1) (.con (.int (0)))) (.op (.cm .lt) (.call F_law_under (.cons (.var 0) (.cons (.con (.int (9))) .nil))) (.con (.int (6))))) (.cons (.ret (.call F_law_some (.cons (.var 0) (.cons (.var 2) .nil)))) .nil) .nil) (.cons .bot (.cons (.ret (.ite (.op .eq (.call F_law_under (.cons (.var 0) (.cons (.con (.int (3))) .nil))) (.con (.int (0)))) (.var 3) (.bi .tuple (.cons (.var 3) .nil)))) .nil)))))
def B__law_odd (F : Sem) : Ss := (.cons (.set (.name 2) (.lst (.cons (.con .non) (.cons (.con (.bl true)) (.cons (.con (.bl false)) (.cons (.con (.int (0))) (.cons (.con (.int (1))) (.cons (.con (.int (2))) (.cons (.con (.int (3))) (.cons (.neg (.con (.int (1)))) (.cons (.op .pow (.con (.int (10))) (.con (.int (31)))) (.cons (.con (.str "")) (.cons (.con (.str "x")) (.cons (.con (.str "y")) (.cons (.con (.str "card")) (.cons (.con (.str "minor")) (.cons (.con (.str "print")) (.cons (.con (.str "set")) (.cons (.tup .nil) (.cons (.lst .nil) .nil)))))))))))))))))))) (.cons (.set (.name 2) (.op .add (.var 2) (.lst (.cons (.tup (.cons (.con (.int (0))) (.cons (.con (.bl true)) .nil))) (.cons (.tup (.cons (.con (.str "print")) (.cons (.tup (.cons (.con (.str "x")) .nil)) .nil))) (.cons (.tup (.cons (.con (.str "add")) (.cons (.con (.str "x")) (.cons (.con (.int (0))) .nil)))) (.cons (.tup (.cons (.con (.str "none")) (.cons (.con (.bl true)) .nil))) (.cons (.tup (.cons (.con (.int (1))) (.cons (.con (.int (1))) (.cons (.con (.bl true)) (.cons (.con (.int (2))) (.cons (.con (.int (3))) .nil)))))) (.cons (.tup (.cons (.con (.int (0))) (.cons (.con (.int (0))) (.cons (.tup .nil) .nil)))) .nil))))))))) (.cons (.ite (.or_ (.op .eq (.var 1) (.con (.int (0)))) (.op (.cm .lt) (.call F_law_under (.cons (.var 0) (.cons (.con (.int (9))) .nil))) (.con (.int (6))))) (.cons (.ret (.call F_law_some (.cons (.var 0) (.cons (.var 2) .nil)))) .nil) .nil) (.cons (.set (.name 3) (.comp (.call F (.cons (.var 0) (.cons (.op .sub (.var 1) (.con (.int (1)))) .nil))) (.name 4) (.rng (.call F_law_under (.cons (.var 0) (.cons (.con (.int (4))) .nil)))) (.con (.bl true)) [4])) (.cons (.ret (.ite (.op .eq (.call F_law_under (.cons (.var 0) (.cons (.con (.int (3))) .nil))) (.con (.int (0)))) (.var 3) (.bi .tuple (.cons (.var 3) .nil)))) .nil)))))
def R__law_odd : Nat → Sem
  | 0 => run 2 5 B0__law_odd
  | n + 1 => run 2 5 (B__law_odd (R__law_odd n))
def F_law_odd : Sem := R__law_odd 4
def B__law_fresh : Ss := (.cons (.ret (.dct ["board", "counters", "switches", "key"] (.cons (.var 0) (.cons (.mrep (.con (.int (0))) (.idx (.var 0) (.con (.int (0))))) (.cons (.mrep (.con (.bl false)) (.idx (.var 0) (.con (.int (1))))) (.cons (.con .non) .nil)))))) .nil)
def F_law_fresh : Sem := run 1 1 B__law_fresh
def B__law_source : Ss := (.cons (.ite (.bi .isi (.cons (.var 2) (.cons (.con (.ty "str")) .nil))) (.cons (.ret (.ite (.op .eq (.var 2) (.con (.str "x"))) (.idx (.var 1) (.con (.int (3)))) (.idx (.var 1) (.con (.int (4)))))) .nil) .nil) (.cons (.ret (.idx (.idx (.var 0) (.con (.str "counters"))) (.var 2))) .nil))
def F_law_source : Sem := run 3 3 B__law_source
def B__law_go : Ss := (.cons (.lin 3 .nil) (.cons (.for_ (.trip (.name 4) (.name 5) (.name 6)) (.seq (.idx (.idx (.var 0) (.con (.str "board"))) (.con (.int (2))))) (.cons (.set (.name 7) (.and_ (.op .isn (.var 5) (.con .non)) (.op .ne (.idx (.idx (.var 0) (.con (.str "switches"))) (.idx (.var 5) (.con (.int (0))))) (.idx (.var 5) (.con (.int (1))))))) (.cons (.ite (.or_ (.op .nin (.var 4) (.var 1)) (.var 7)) (.cons .cont .nil) .nil) (.cons (.ite (.op .eq (.idx (.var 6) (.con (.int (0)))) (.con (.str "print"))) (.cons (.set (.name 8) (.bi .tuple (.cons (.comp (.call F_law_source (.cons (.var 0) (.cons (.var 2) (.cons (.var 10) .nil)))) (.name 10) (.seq (.idx (.var 6) (.con (.int (1))))) (.con (.bl true)) [10]) .nil))) (.cons (.app 3 (.tup (.cons (.var 8) (.cons (.op .add (.slc (.var 2) .no (.yes (.con (.int (2))))) (.tup (.cons (.op .eq (.var 4) (.con (.str "major"))) .nil))) .nil)))) .nil)) (.cons (.ite (.op .eq (.idx (.var 6) (.con (.int (0)))) (.con (.str "set"))) (.cons (.put (.idx (.var 0) (.con (.str "switches"))) (.idx (.var 6) (.con (.int (1)))) (.idx (.var 6) (.con (.int (2))))) .nil) (.cons (.ite (.op .eq (.idx (.var 6) (.con (.int (0)))) (.con (.str "clear"))) (.cons (.put (.idx (.var 0) (.con (.str "counters"))) (.idx (.var 6) (.con (.int (1)))) (.con (.int (0)))) .nil) (.cons (.set (.name 9) (.call F_law_source (.cons (.var 0) (.cons (.var 2) (.cons (.idx (.var 6) (.con (.int (1)))) .nil))))) (.cons (.set (.name 9) (.ite (.op .eq (.idx (.var 6) (.con (.int (0)))) (.con (.str "add"))) (.var 9) (.neg (.var 9)))) (.cons (.put (.idx (.var 0) (.con (.str "counters"))) (.idx (.var 6) (.con (.int (2)))) (.op .add (.idx (.idx (.var 0) (.con (.str "counters"))) (.idx (.var 6) (.con (.int (2))))) (.var 9))) .nil)))) .nil)) .nil)) .nil)))) (.cons (.still 3) (.cons (.ret (.var 3)) .nil))))
def F_law_go : Sem := run 3 11 B__law_go
def B__law_next : Ss := (.cons (.set (.pair (.name 2) (.name 3)) (.tup (.cons (.lst .nil) (.cons (.idx (.var 0) (.con (.str "key"))) .nil)))) (.cons (.ite (.and_ (.op .isn (.var 3) (.con .non)) (.op .ne (.var 3) (.slc (.var 1) .no (.yes (.con (.int (2))))))) (.cons (.set (.name 4) (.ite (.op .eq (.idx (.var 3) (.con (.int (0)))) (.idx (.var 1) (.con (.int (0))))) (.lst (.cons (.con (.str "minor")) .nil)) (.lst (.cons (.con (.str "minor")) (.cons (.con (.str "major")) .nil))))) (.cons (.set (.name 2) (.call F_law_go (.cons (.var 0) (.cons (.var 4) (.cons (.op .add (.var 3) (.tup (.cons (.con (.bl false)) (.cons (.con (.int (0))) (.cons (.con (.int (0))) .nil))))) .nil))))) .nil)) .nil) (.cons (.put (.var 0) (.con (.str "key")) (.slc (.var 1) .no (.yes (.con (.int (2)))))) (.cons (.ret (.op .add (.var 2) (.call F_law_go (.cons (.var 0) (.cons (.lst (.cons (.con (.str "card")) (.cons (.ite (.idx (.var 1) (.con (.int (2)))) (.con (.str "hole")) (.con (.str "plain"))) .nil))) (.cons (.var 1) .nil)))))) .nil))))
def F_law_next : Sem := run 2 5 B__law_next
def B__law_last : Ss := (.cons (.set (.name 1) (.idx (.var 0) (.con (.str "key")))) (.cons (.put (.var 0) (.con (.str "key")) (.con .non)) (.cons (.ret (.ite (.op .isn (.var 1) (.con .non)) (.call F_law_go (.cons (.var 0) (.cons (.lst (.cons (.con (.str "minor")) (.cons (.con (.str "major")) .nil))) (.cons (.op .add (.var 1) (.tup (.cons (.con (.bl false)) (.cons (.con (.int (0))) (.cons (.con (.int (0))) .nil))))) .nil)))) (.lst .nil))) .nil)))
def F_law_last : Sem := run 1 2 B__law_last
def B__law_all_next : Ss := (.cons (.set (.name 2) (.call F_law_next (.cons (.idx (.var 0) (.con (.int (0)))) (.cons (.var 1) .nil)))) (.cons (.ite (.op .eq (.bi .len (.cons (.var 0) .nil)) (.con (.int (1)))) (.cons (.ret (.comp (.var 4) (.pair (.name 4) (.name 5)) (.seq (.var 2)) (.con (.bl true)) [4, 5])) .nil) .nil) (.cons (.set (.name 3) (.lst .nil)) (.cons (.for_ (.pair (.name 4) (.name 5)) (.seq (.var 2)) (.cons (.ite (.op .eq (.bi .len (.cons (.var 4) .nil)) (.con (.int (2)))) (.cons (.set (.name 3) (.op .add (.var 3) (.comp (.var 6) (.pair (.name 6) (.name 7)) (.seq (.call F_law_next (.cons (.idx (.var 0) (.con (.int (1)))) (.cons (.op .add (.var 5) (.var 4)) .nil)))) (.con (.bl true)) [6, 7]))) .nil) .nil) .nil)) (.cons (.ret (.var 3)) .nil)))))
def F_law_all_next : Sem := run 2 8 B__law_all_next
def B__law_all_last : Ss := (.cons (.set (.name 1) (.call F_law_last (.cons (.idx (.var 0) (.con (.int (0)))) .nil))) (.cons (.ite (.op .eq (.bi .len (.cons (.var 0) .nil)) (.con (.int (1)))) (.cons (.ret (.comp (.var 3) (.pair (.name 3) (.name 4)) (.seq (.var 1)) (.con (.bl true)) [3, 4])) .nil) .nil) (.cons (.set (.name 2) (.lst .nil)) (.cons (.for_ (.pair (.name 3) (.name 4)) (.seq (.var 1)) (.cons (.ite (.op .eq (.bi .len (.cons (.var 3) .nil)) (.con (.int (2)))) (.cons (.set (.name 2) (.op .add (.var 2) (.comp (.var 5) (.pair (.name 5) (.name 6)) (.seq (.call F_law_next (.cons (.idx (.var 0) (.con (.int (1)))) (.cons (.op .add (.var 4) (.var 3)) .nil)))) (.con (.bl true)) [5, 6]))) .nil) .nil) .nil)) (.cons (.ret (.op .add (.var 2) (.comp (.var 5) (.pair (.name 5) (.name 6)) (.seq (.call F_law_last (.cons (.idx (.var 0) (.con (.int (1)))) .nil))) (.con (.bl true)) [5, 6]))) .nil)))))
def F_law_all_last : Sem := run 1 7 B__law_all_last
def B__law_sheet : Ss := (.cons (.set (.pair (.name 2) (.name 3)) (.tup (.cons (.comp (.call F_law_fresh (.cons (.var 5) .nil)) (.name 5) (.seq (.var 0)) (.con (.bl true)) [5]) (.cons (.lst .nil) .nil)))) (.cons (.for_ (.name 4) (.seq (.var 1)) (.cons (.set (.name 3) (.op .add (.var 3) (.call F_law_all_next (.cons (.var 2) (.cons (.var 4) .nil))))) .nil)) (.cons (.ret (.op .add (.var 3) (.call F_law_all_last (.cons (.var 2) .nil)))) .nil)))
def F_law_sheet : Sem := run 2 6 B__law_sheet
def B__law_due : Ss := (.cons (.set (.pair (.name 3) (.name 4)) (.tup (.cons (.call F_law_sheet (.cons (.var 0) (.cons (.var 2) .nil))) (.cons (.call F_law_sheet (.cons (.var 1) (.cons (.var 2) .nil))) .nil)))) (.cons (.for_ (.name 5) (.rng (.op .add (.bi .len (.cons (.var 3) .nil)) (.bi .len (.cons (.var 4) .nil)))) (.cons (.ite (.op .ne (.slc (.var 3) (.yes (.var 5)) (.yes (.op .add (.var 5) (.con (.int (1)))))) (.slc (.var 4) (.yes (.var 5)) (.yes (.op .add (.var 5) (.con (.int (1))))))) (.cons (.ret (.var 5)) .nil) .nil) .nil)) (.cons (.ret (.con .non)) .nil)))
def F_law_due : Sem := run 3 6 B__law_due
def N_part_of : List Str := [("word" : Str)]
def B_part_of : Ss := (.cons (.ret (.ite (.and_ (.op .eq (.bi .len (.cons (.var 0) .nil)) (.con (.int (1)))) (.op .in_ (.var 0) (.con (.str "0123456789")))) (.bi .int (.cons (.var 0) .nil)) (.var 0))) .nil)
def Fpart_of : Sem := run 1 1 B_part_of
def N_action_of : List Str := [("words" : Str), ("parts" : Str), ("word" : Str)]
def B_action_of : Ss := (.cons (.set (.name 1) (.bi .tuple (.cons (.comp (.call Fpart_of (.cons (.var 2) .nil)) (.name 2) (.seq (.var 0)) (.con (.bl true)) [2]) .nil))) (.cons (.ite (.op .in_ (.slc (.var 1) .no (.yes (.con (.int (1))))) (.tup (.cons (.tup (.cons (.con (.str "on")) .nil)) (.cons (.tup (.cons (.con (.str "off")) .nil)) .nil)))) (.cons (.ret (.op .add (.op .add (.tup (.cons (.con (.str "set")) .nil)) (.slc (.var 1) (.yes (.con (.int (1)))) .no)) (.tup (.cons (.op .eq (.idx (.var 1) (.con (.int (0)))) (.con (.str "on"))) .nil)))) .nil) .nil) (.cons (.ite (.op .eq (.slc (.var 1) .no (.yes (.con (.int (1))))) (.tup (.cons (.con (.str "print")) .nil))) (.cons (.ret (.tup (.cons (.con (.str "print")) (.cons (.slc (.var 1) (.yes (.con (.int (1)))) .no) .nil)))) .nil) .nil) (.cons (.ret (.var 1)) .nil))))
def Faction_of : Sem := run 1 3 B_action_of
def N_wire_of : List Str := [("line" : Str), ("words" : Str)]
def B_wire_of : Ss := (.cons (.set (.name 1) (.meth .split (.var 0) (.cons (.con (.str " ")) .nil))) (.cons (.ite (.and_ (.op (.cm .gt) (.bi .len (.cons (.var 1) .nil)) (.con (.int (2)))) (.op .in_ (.idx (.var 1) (.con (.int (1)))) (.tup (.cons (.con (.str "if")) (.cons (.con (.str "unless")) .nil))))) (.cons (.ret (.tup (.cons (.idx (.var 1) (.con (.int (0)))) (.cons (.tup (.cons (.call Fpart_of (.cons (.idx (.var 1) (.con (.int (2)))) .nil)) (.cons (.op .eq (.idx (.var 1) (.con (.int (1)))) (.con (.str "if"))) .nil))) (.cons (.call Faction_of (.cons (.slc (.var 1) (.yes (.con (.int (3)))) .no) .nil)) .nil))))) .nil) .nil) (.cons (.ret (.tup (.cons (.idx (.var 1) (.con (.int (0)))) (.cons (.con .non) (.cons (.call Faction_of (.cons (.slc (.var 1) (.yes (.con (.int (1)))) .no) .nil)) .nil))))) .nil)))
def Fwire_of : Sem := run 1 2 B_wire_of
def N_head_of : List Str := [("line" : Str), ("words" : Str), ("board" : Str)]
def B_head_of : Ss := (.cons (.set (.name 1) (.meth .split (.var 0) (.cons (.con (.str " ")) .nil))) (.cons (.ite (.or_ (.op .ne (.bi .len (.cons (.var 1) .nil)) (.con (.int (3)))) (.op .ne (.idx (.var 1) (.con (.int (0)))) (.con (.str "board")))) (.cons (.ret (.con .non)) .nil) .nil) (.cons (.set (.name 2) (.tup (.cons (.call Fpart_of (.cons (.idx (.var 1) (.con (.int (1)))) .nil)) (.cons (.call Fpart_of (.cons (.idx (.var 1) (.con (.int (2)))) .nil)) (.cons (.tup .nil) .nil))))) (.cons (.ret (.ite (.call Fis_board (.cons (.var 2) .nil)) (.var 2) (.con .non))) .nil))))
def Fhead_of : Sem := run 1 3 B_head_of
def N_read_board : List Str := [("value" : Str), ("lines" : Str), ("board" : Str), ("wires" : Str), ("number" : Str), ("wire" : Str), ("line" : Str)]
def B_read_board : Ss := (.cons (.ite (.not_ (.bi .isi (.cons (.var 0) (.cons (.con (.ty "str")) .nil)))) (.cons (.raisep "InvalidText" (.con (.int (0)))) .nil) .nil) (.cons (.set (.name 1) (.meth .split (.var 0) (.cons (.con (.str "\n")) .nil))) (.cons (.set (.name 2) (.call Fhead_of (.cons (.idx (.var 1) (.con (.int (0)))) .nil))) (.cons (.ite (.op .is_ (.var 2) (.con .non)) (.cons (.raisep "InvalidText" (.con (.int (1)))) .nil) .nil) (.cons (.set (.name 3) (.bi .tuple (.cons (.comp (.call Fwire_of (.cons (.var 6) .nil)) (.name 6) (.seq (.slc (.var 1) (.yes (.con (.int (1)))) .no)) (.con (.bl true)) [6]) .nil))) (.cons (.for_ (.pair (.name 4) (.name 5)) (.enum (.var 3)) (.cons (.ite (.not_ (.call Fis_wire (.cons (.var 2) (.cons (.var 5) .nil)))) (.cons (.raisep "InvalidText" (.op .add (.var 4) (.con (.int (2))))) .nil) .nil) .nil)) (.cons (.ite (.op (.cm .gt) (.bi .len (.cons (.var 3) .nil)) (.con (.int (8)))) (.cons (.raisep "InvalidText" (.con (.int (10)))) .nil) .nil) (.cons (.ret (.op .add (.slc (.var 2) .no (.yes (.con (.int (2))))) (.tup (.cons (.var 3) .nil)))) .nil))))))))
def Fread_board : Sem := run 1 7 B_read_board
def N__law_words : List Str := [("wire" : Str), ("when" : Str), ("switch" : Str), ("act" : Str), ("found" : Str), ("parts" : Str), ("part" : Str)]
def B__law_words : Ss := (.cons (.set (.trip (.name 1) (.name 2) (.name 3)) (.var 0)) (.cons (.set (.name 4) (.op .add (.lst (.cons (.var 1) .nil)) (.ite (.op .is_ (.var 2) (.con .non)) (.lst .nil) (.lst (.cons (.ite (.idx (.var 2) (.con (.int (1)))) (.con (.str "if")) (.con (.str "unless"))) (.cons (.bi .str (.cons (.idx (.var 2) (.con (.int (0)))) .nil)) .nil)))))) (.cons (.ite (.op .eq (.idx (.var 3) (.con (.int (0)))) (.con (.str "set"))) (.cons (.ret (.meth .join (.con (.str " ")) (.cons (.op .add (.var 4) (.lst (.cons (.ite (.idx (.var 3) (.con (.int (2)))) (.con (.str "on")) (.con (.str "off"))) (.cons (.bi .str (.cons (.idx (.var 3) (.con (.int (1)))) .nil)) .nil)))) .nil))) .nil) .nil) (.cons (.set (.name 5) (.ite (.op .eq (.idx (.var 3) (.con (.int (0)))) (.con (.str "print"))) (.idx (.var 3) (.con (.int (1)))) (.slc (.var 3) (.yes (.con (.int (1)))) .no))) (.cons (.ret (.meth .join (.con (.str " ")) (.cons (.op .add (.op .add (.var 4) (.lst (.cons (.idx (.var 3) (.con (.int (0)))) .nil))) (.comp (.bi .str (.cons (.var 6) .nil)) (.name 6) (.seq (.var 5)) (.con (.bl true)) [6])) .nil))) .nil)))))
def F_law_words : Sem := run 1 7 B__law_words
def N__law_lines : List Str := [("board" : Str), ("wire" : Str)]
def B__law_lines : Ss := (.cons (.ret (.op .add (.lst (.cons (.op .add (.op .add (.op .add (.con (.str "board ")) (.bi .str (.cons (.idx (.var 0) (.con (.int (0)))) .nil))) (.con (.str " "))) (.bi .str (.cons (.idx (.var 0) (.con (.int (1)))) .nil))) .nil)) (.comp (.call F_law_words (.cons (.var 1) .nil)) (.name 1) (.seq (.idx (.var 0) (.con (.int (2))))) (.con (.bl true)) [1]))) .nil)
def F_law_lines : Sem := run 1 2 B__law_lines
def N__law_part : List Str := [("word" : Str)]
def B__law_part : Ss := (.cons (.ret (.ite (.op .in_ (.var 0) (.bi .list (.cons (.con (.str "0123456789")) .nil))) (.bi .int (.cons (.var 0) .nil)) (.var 0))) .nil)
def F_law_part : Sem := run 1 1 B__law_part
def N__law_wire_of : List Str := [("line" : Str), ("words_so" : Str), ("switch" : Str), ("rest" : Str), ("parts" : Str), ("word" : Str)]
def B__law_wire_of : Ss := (.cons (.set (.name 1) (.meth .split (.var 0) (.cons (.con (.str " ")) .nil))) (.cons (.set (.pair (.name 2) (.name 3)) (.tup (.cons (.con .non) (.cons (.slc (.var 1) (.yes (.con (.int (1)))) .no) .nil)))) (.cons (.ite (.and_ (.op .in_ (.slc (.var 3) .no (.yes (.con (.int (1))))) (.lst (.cons (.lst (.cons (.con (.str "if")) .nil)) (.cons (.lst (.cons (.con (.str "unless")) .nil)) .nil)))) (.op (.cm .gt) (.bi .len (.cons (.var 3) .nil)) (.con (.int (1))))) (.cons (.set (.pair (.name 2) (.name 3)) (.tup (.cons (.tup (.cons (.call F_law_part (.cons (.idx (.var 3) (.con (.int (1)))) .nil)) (.cons (.op .eq (.idx (.var 3) (.con (.int (0)))) (.con (.str "if"))) .nil))) (.cons (.slc (.var 3) (.yes (.con (.int (2)))) .no) .nil)))) .nil) .nil) (.cons (.set (.name 4) (.bi .tuple (.cons (.comp (.call F_law_part (.cons (.var 5) .nil)) (.name 5) (.seq (.var 3)) (.con (.bl true)) [5]) .nil))) (.cons (.ite (.op .in_ (.slc (.var 3) .no (.yes (.con (.int (1))))) (.lst (.cons (.lst (.cons (.con (.str "on")) .nil)) (.cons (.lst (.cons (.con (.str "off")) .nil)) .nil)))) (.cons (.set (.name 4) (.op .add (.op .add (.tup (.cons (.con (.str "set")) .nil)) (.slc (.var 4) (.yes (.con (.int (1)))) .no)) (.tup (.cons (.op .eq (.idx (.var 3) (.con (.int (0)))) (.con (.str "on"))) .nil)))) .nil) (.cons (.ite (.op .eq (.slc (.var 3) .no (.yes (.con (.int (1))))) (.lst (.cons (.con (.str "print")) .nil))) (.cons (.set (.name 4) (.tup (.cons (.con (.str "print")) (.cons (.slc (.var 4) (.yes (.con (.int (1)))) .no) .nil)))) .nil) .nil) .nil)) (.cons (.ret (.tup (.cons (.idx (.var 1) (.con (.int (0)))) (.cons (.var 2) (.cons (.var 4) .nil))))) .nil))))))
def F_law_wire_of : Sem := run 1 6 B__law_wire_of
def N__law_due__2 : List Str := [("value" : Str), ("lines" : Str), ("head" : Str), ("frame" : Str), ("wires" : Str), ("at" : Str), ("line" : Str), ("wire" : Str), ("word" : Str)]
def B__law_due__2 : Ss := (.cons (.ite (.not_ (.bi .isi (.cons (.var 0) (.cons (.con (.ty "str")) .nil)))) (.cons (.ret (.con (.int (0)))) .nil) .nil) (.cons (.set (.name 1) (.meth .split (.var 0) (.cons (.con (.str "\n")) .nil))) (.cons (.set (.name 2) (.meth .split (.idx (.var 1) (.con (.int (0)))) (.cons (.con (.str " ")) .nil))) (.cons (.set (.name 3) (.bi .tuple (.cons (.comp (.call F_law_part (.cons (.var 8) .nil)) (.name 8) (.seq (.slc (.var 2) (.yes (.con (.int (1)))) .no)) (.con (.bl true)) [8]) .nil))) (.cons (.ite (.or_ (.op .ne (.idx (.var 2) (.con (.int (0)))) (.con (.str "board"))) (.or_ (.op .ne (.bi .len (.cons (.var 3) .nil)) (.con (.int (2)))) (.not_ (.call F_law_is_board (.cons (.op .add (.var 3) (.tup (.cons (.tup .nil) .nil))) .nil))))) (.cons (.ret (.con (.int (1)))) .nil) .nil) (.cons (.set (.name 4) (.tup .nil)) (.cons (.for_ (.pair (.name 5) (.name 6)) (.enum (.slc (.var 1) (.yes (.con (.int (1)))) .no)) (.cons (.set (.name 7) (.call F_law_wire_of (.cons (.var 6) .nil))) (.cons (.ite (.or_ (.not_ (.call F_law_is_wire (.cons (.var 3) (.cons (.var 7) .nil)))) (.op .ne (.call F_law_words (.cons (.var 7) .nil)) (.var 6))) (.cons (.ret (.op .add (.var 5) (.con (.int (2))))) .nil) .nil) (.cons (.set (.name 4) (.op .add (.var 4) (.tup (.cons (.var 7) .nil)))) .nil)))) (.cons (.ret (.ite (.op (.cm .lt) (.bi .len (.cons (.var 4) .nil)) (.con (.int (9)))) (.op .add (.var 3) (.tup (.cons (.var 4) .nil))) (.con (.int (10))))) .nil))))))))
def F_law_due__2 : Sem := run 1 9 B__law_due__2
def N__law_spoilt : List Str := [("vat" : Str), ("text" : Str), ("spot" : Str), ("way" : Str), ("signs" : Str), ("lines" : Str), ("here" : Str), ("some" : Str)]
def B__law_spoilt : Ss := (.cons (.set (.pair (.name 2) (.name 3)) (.tup (.cons (.call F_law_under (.cons (.var 0) (.cons (.op .add (.bi .len (.cons (.var 1) .nil)) (.con (.int (1)))) .nil))) (.cons (.call F_law_under (.cons (.var 0) (.cons (.con (.int (6))) .nil))) .nil)))) (.cons (.ite (.op (.cm .lt) (.var 3) (.con (.int (2)))) (.cons (.set (.name 4) (.lst (.cons (.con (.str "")) (.cons (.con (.str " ")) (.cons (.con (.str "0")) (.cons (.con (.str "1")) (.cons (.con (.str "x")) (.cons (.con (.str "\n")) (.cons (.con (.str "\ncard")) (.cons (.con (.str " if 0")) (.cons (.con (.str "2")) (.cons (.con (.str "y")) (.cons (.con (.str "on")) (.cons (.con (.str "-")) .nil)))))))))))))) (.cons (.ret (.op .add (.op .add (.slc (.var 1) .no (.yes (.var 2))) (.call F_law_some (.cons (.var 0) (.cons (.var 4) .nil)))) (.slc (.var 1) (.yes (.op .add (.var 2) (.var 3))) .no))) .nil)) .nil) (.cons (.set (.name 5) (.meth .split (.var 1) (.cons (.con (.str "\n")) .nil))) (.cons (.set (.name 6) (.call F_law_under (.cons (.var 0) (.cons (.bi .len (.cons (.var 5) .nil)) .nil)))) (.cons (.ite (.op .eq (.var 3) (.con (.int (2)))) (.cons (.ret (.meth .join (.con (.str "\n")) (.cons (.op .add (.slc (.var 5) .no (.yes (.var 6))) (.slc (.var 5) (.yes (.op .add (.var 6) (.con (.int (1))))) .no)) .nil))) .nil) .nil) (.cons (.ite (.op .eq (.var 3) (.con (.int (3)))) (.cons (.ret (.meth .join (.con (.str "\n")) (.cons (.op .add (.slc (.var 5) .no (.yes (.op .add (.var 6) (.con (.int (1)))))) (.slc (.var 5) (.yes (.var 6)) .no)) .nil))) .nil) .nil) (.cons (.ite (.op .eq (.var 3) (.con (.int (4)))) (.cons (.ret (.meth .join (.con (.str "\n")) (.cons (.op .add (.slc (.var 5) (.yes (.var 6)) .no) (.slc (.var 5) .no (.yes (.var 6)))) .nil))) .nil) .nil) (.cons (.set (.name 7) (.lst (.cons (.con (.str "card print x")) (.cons (.con (.str "minor print x")) (.cons (.con (.str "major print 0")) (.cons (.con (.str "card if 0 on 0")) (.cons (.con (.str "board 1 1")) (.cons (.con (.str "hole add 0 0")) (.cons (.con (.str "card on")) .nil))))))))) (.cons (.ret (.meth .join (.con (.str "\n")) (.cons (.op .add (.op .add (.slc (.var 5) .no (.yes (.var 6))) (.lst (.cons (.call F_law_some (.cons (.var 0) (.cons (.var 7) .nil))) .nil))) (.slc (.var 5) (.yes (.op .add (.var 6) (.con (.int (1))))) .no)) .nil))) .nil)))))))))
def F_law_spoilt : Sem := run 2 8 B__law_spoilt
end Pg
set_option Elab.async false
set_option linter.all false
set_option maxRecDepth 100000
/-! Evl: running the small language step by step (for simp: what comes later stands in named functions that are not looked into ahead of time). -/
namespace Ev
open PySem L2 Mi
/-- as in Mi, but not seen through -/
def bindR {α β : Type} (x : RM α) (f : α → List Mo → RM β) : RM β := Mi.bindR x f
def thenE {α : Type} (x : RM α) (δ : List Sl) (f : α → List Mo → SM) : SM := Mi.thenE x δ f
def thenS (x : SM) (f : List Sl → List Mo → SM) : SM := Mi.thenS x f
/-- a step that simp writes down (and the kernel does not look for) -/
theorem nr {α : Sort u} {a b : α} (h : a = b) : a = b := h
section
variable {α β : Type} {a : α} {e : Ex} {μ : List Mo} {δ : List Sl} {f : α → List Mo → RM β} {g : α → List Mo → SM} {h : List Sl → List Mo → SM} {d : D}
@[simp] theorem bR_ok : bindR (some (.ok a, μ)) f = f a μ := nr rfl
@[simp] theorem bR_er : bindR (some (.error e, μ)) f = some (.error e, μ) := nr rfl
@[simp] theorem tE_ok : thenE (some (.ok a, μ)) δ g = g a μ := nr rfl
@[simp] theorem tE_er {g : α → List Mo → SM} : thenE (some (.error e, μ)) δ g = some (.ex e, δ, μ) := nr rfl
@[simp] theorem tS_nx : thenS (some (.nx, δ, μ)) h = h δ μ := nr rfl
@[simp] theorem tS_rt : thenS (some (.rt d, δ, μ)) h = some (.rt d, δ, μ) := nr rfl
@[simp] theorem tS_ex : thenS (some (.ex e, δ, μ)) h = some (.ex e, δ, μ) := nr rfl
@[simp] theorem tS_ct : thenS (some (.ct, δ, μ)) h = some (.ct, δ, μ) := nr rfl
@[simp] theorem tS_bk : thenS (some (.bk, δ, μ)) h = some (.bk, δ, μ) := nr rfl
@[simp] theorem rR : retR a μ = some (.ok a, μ) := nr rfl
@[simp] theorem oR : optR (some a) μ = some (.ok a, μ) := nr rfl
end
/-- a def's end -/
def fin : SM → RM D
  | some (.nx, _, μ) => some (.ok .non, μ)
  | some (.rt d, _, μ) => some (.ok d, μ)
  | some (.ex e, _, μ) => some (.error e, μ)
  | _ => none
@[simp] theorem fin_nx {δ : List Sl} {μ : List Mo} : fin (some (.nx, δ, μ)) = some (.ok .non, μ) := nr rfl
@[simp] theorem fin_rt {d : D} {δ : List Sl} {μ : List Mo} : fin (some (.rt d, δ, μ)) = some (.ok d, μ) := nr rfl
@[simp] theorem fin_ex {e : Ex} {δ : List Sl} {μ : List Mo} : fin (some (.ex e, δ, μ)) = some (.error e, μ) := nr rfl
theorem go {np ns : Nat} {b : Ss} {xs : List D} {μ : List Mo} (h : xs.length = np) : Mi.run np ns b xs μ = fin (exs b (xs.map .d ++ List.replicate (ns - np) .un) μ) := by
  unfold Mi.run
  rw [if_pos h]
  generalize exs b (xs.map .d ++ List.replicate (ns - np) .un) μ = r
  rcases r with _ | ⟨fl, _, _⟩
  · rfl
  · cases fl <;> rfl
theorem bx {α β : Type} {x : RM α} {f g : α → List Mo → RM β} (h : ∀ a μ, f a μ = g a μ) : bindR x f = bindR x g := by rw [show f = g from funext fun a => funext fun μ => h a μ]
theorem tx {α : Type} {x : RM α} {δ : List Sl} {f g : α → List Mo → SM} (h : ∀ a μ, f a μ = g a μ) : thenE x δ f = thenE x δ g := by rw [show f = g from funext fun a => funext fun μ => h a μ]
/-! ### what comes behind a part -/
def vr : Option Sl → List Mo → RM D
  | some (.d x), μ => some (.ok x, μ)
  | _, _ => none
def k2 (o : Op) (x y : D) (μ : List Mo) : RM D := optR (o.do μ x y) μ
def k1 (o : Op) (b : E) (δ : List Sl) (x : D) (μ : List Mo) : RM D := bindR (ev b δ μ) (k2 o x)
def kneg : D → List Mo → RM D
  | .int i, μ => some (.ok (.int (-i)), μ)
  | _, _ => none
def knot : D → List Mo → RM D
  | .bl b, μ => some (.ok (.bl (!b)), μ)
  | _, _ => none
def knott (x : D) (μ : List Mo) : RM D := optR ((truD x).map fun b => .bl (!b)) μ
def kand (b : E) (δ : List Sl) : D → List Mo → RM D
  | .bl true, μ => ev b δ μ
  | .bl false, μ => some (.ok (.bl false), μ)
  | _, _ => none
def kor (b : E) (δ : List Sl) : D → List Mo → RM D
  | .bl true, μ => some (.ok (.bl true), μ)
  | .bl false, μ => ev b δ μ
  | _, _ => none
def kite (a b : E) (δ : List Sl) : D → List Mo → RM D
  | .bl true, μ => ev a δ μ
  | .bl false, μ => ev b δ μ
  | _, _ => none
def kc3 (o : Op) (c : E) (δ : List Sl) (y : D) : D → List Mo → RM D
  | .bl true, μ => bindR (ev c δ μ) (k2 o y)
  | .bl false, μ => some (.ok (.bl false), μ)
  | _, _ => none
def kc2 (o o' : Op) (c : E) (δ : List Sl) (x y : D) (μ : List Mo) : RM D := bindR (optR (o.do μ x y) μ) (kc3 o' c δ y)
def kc1 (o o' : Op) (b c : E) (δ : List Sl) (x : D) (μ : List Mo) : RM D := bindR (ev b δ μ) (kc2 o o' c δ x)
def ki2 (x y : D) (μ : List Mo) : RM D := optR (ixD μ x y) μ
def ki1 (b : E) (δ : List Sl) (x : D) (μ : List Mo) : RM D := bindR (ev b δ μ) (ki2 x)
def kl (xs : List D) : D → List Mo → RM D
  | .int j, μ => optR (L2.atI xs j) μ
  | _, _ => none
def kl0 (b : E) (δ : List Sl) (μ : List Mo) : Option Sl → RM D
  | some (.lin xs) => bindR (ev b δ μ) (kl xs)
  | _ => none
def ks3 (x : D) (l h : Option Int) (μ : List Mo) : RM D := optR (slD μ x l h) μ
def ks2 (hi : Eo) (δ : List Sl) (x : D) (l : Option Int) (μ : List Mo) : RM D := bindR (evo hi δ μ) (ks3 x l)
def ks1 (lo hi : Eo) (δ : List Sl) (x : D) (μ : List Mo) : RM D := bindR (evo lo δ μ) (ks2 hi δ x)
def krev (x : D) (μ : List Mo) : RM D := optR (revD μ x) μ
def ktup (xs : List D) (μ : List Mo) : RM D := if xs.length ≤ sizeLine then some (.ok (.tup xs), μ) else none
def klst (xs : List D) (μ : List Mo) : RM D := if xs.length ≤ sizeLine then some (.ok (.lst xs), μ) else none
def kmlst (xs : List D) (μ : List Mo) : RM D := if xs.length ≤ sizeLine then some (.ok (.obj μ.length), μ ++ [.lst xs]) else none
def kb (f : Bi) (xs : List D) (μ : List Mo) : RM D := optR (f.do μ xs) μ
def kcomp (elt : E) (tg : Tg) (cond : E) (own : List Nat) (δ : List Sl) (xs : List D) (μ : List Mo) : RM D := compL tg (ev cond) (ev elt) (wipeS δ own) xs [] μ
def klr : D → List Mo → RM D
  | .int j, μ => if (decide (-(2 ^ 62) ≤ j) && decide (j ≤ 16777216)) = true then some (.ok (.lst (rgD 0 j)), μ) else none
  | _, _ => none
def kerr (nms : List (Str × Str)) : RM D → RM D
  | some (.ok _, μ) => some (.ok (.str ""), μ)
  | some (.error (c, none), μ) => optR ((nms.lookup c).map .str) μ
  | _ => none
def km2 (f : Bi) (z : Str) (xs : List D) (μ : List Mo) : RM D := optR (f.do μ (.str z :: xs)) μ
def km1 (f : Bi) (es : Es) (δ : List Sl) : D → List Mo → RM D
  | .str z, μ => bindR (evs es δ μ) (km2 f z)
  | _, _ => none
def kmr2 (d : D) : D → List Mo → RM D
  | .int j, μ => if (decide (-(2 ^ 63) ≤ j) && decide (j < 2 ^ 63) && decide (j.toNat ≤ sizeLine)) = true then some (.ok (.obj μ.length), μ ++ [.lst (List.replicate j.toNat d)]) else none
  | _, _ => none
def kmr1 (k : E) (δ : List Sl) (d : D) (μ : List Mo) : RM D := bindR (ev k δ μ) (kmr2 d)
def kdct (ks : List Str) (xs : List D) (μ : List Mo) : RM D := if (decide (ks.length = xs.length) && decide (ks.length ≤ 15) && decide ks.Nodup && !ks.isEmpty) = true then some (.ok (.obj μ.length), μ ++ [.dct (ks.zip xs)]) else none
def kes2 (x : D) (xs : List D) (μ : List Mo) : RM (List D) := some (.ok (x :: xs), μ)
def kes (es : Es) (δ : List Sl) (x : D) (μ : List Mo) : RM (List D) := bindR (evs es δ μ) (kes2 x)
def keo : D → List Mo → RM (Option Int)
  | .int i, μ => some (.ok (some i), μ)
  | _, _ => none
def kseq (x : D) (μ : List Mo) : RM (List D) := optR (seqD [] x) μ
def krng : D → List Mo → RM (List D)
  | .int j, μ => if rgOk 0 j = true then some (.ok (rgD 0 j), μ) else none
  | _, _ => none
def krg2 : D → D → List Mo → RM (List D)
  | .int i, .int j, μ => if rgOk i j = true then some (.ok (rgD i j), μ) else none
  | _, _, _ => none
def krg1 (b : E) (δ : List Sl) (x : D) (μ : List Mo) : RM (List D) := bindR (ev b δ μ) (krg2 x)
def kenum (x : D) (μ : List Mo) : RM (List D) := optR (enumK x) μ
def kzip2 (x y : D) (μ : List Mo) : RM (List D) := optR (zipK x y) μ
def kzip1 (b : E) (δ : List Sl) (x : D) (μ : List Mo) : RM (List D) := bindR (ev b δ μ) (kzip2 x)
def nxt (δ : Option (List Sl)) (μ : List Mo) : SM := δ.bind fun δ => some (.nx, δ, μ)
def kexp (δ : List Sl) (_ : D) (μ : List Mo) : SM := some (.nx, δ, μ)
def kset (t : Tg) (δ : List Sl) (x : D) (μ : List Mo) : SM := nxt (t.put x δ) μ
def kret (δ : List Sl) (x : D) (μ : List Mo) : SM := some (.rt x, δ, μ)
def kif (a b : Ss) (δ : List Sl) : D → List Mo → SM
  | .bl true, μ => exs a δ μ
  | .bl false, μ => exs b δ μ
  | _, _ => none
def kfor (t : Tg) (body : Ss) (δ : List Sl) (xs : List D) (μ : List Mo) : SM := forL t (exs body) xs δ μ
def nxm (δ : List Sl) (μ : Option (List Mo)) : SM := μ.bind fun μ => some (.nx, δ, μ)
def kp3 (δ : List Sl) (v x k : D) (μ : List Mo) : SM := nxm δ (putD μ x k v)
def kp2 (i : E) (δ : List Sl) (v x : D) (μ : List Mo) : SM := thenE (ev i δ μ) δ (kp3 δ v x)
def kp1 (o i : E) (δ : List Sl) (v : D) (μ : List Mo) : SM := thenE (ev o δ μ) δ (kp2 i δ v)
def klin (i : Nat) (δ : List Sl) (xs : List D) (μ : List Mo) : SM := if xs.length ≤ sizeLine then some (.nx, δ.set i (.lin xs), μ) else none
def kapp (i : Nat) (δ : List Sl) (xs : List D) (x : D) (μ : List Mo) : SM := if xs.length < sizeLine then some (.nx, δ.set i (.lin (xs ++ [x])), μ) else none
def kapp0 (i : Nat) (e : E) (δ : List Sl) (μ : List Mo) : Option Sl → SM
  | some (.lin xs) => thenE (ev e δ μ) δ (kapp i δ xs)
  | _ => none
def kstill (i : Nat) (δ : List Sl) (μ : List Mo) : Option Sl → SM
  | some (.lin xs) => some (.nx, δ.set i (.d (.lst xs)), μ)
  | _ => none
section
variable {δ : List Sl} {μ : List Mo} {a b c e : E} {es : Es} {o o' : Op} {i : Nat} {d x y : D} {xs : List D} {s : Mi.St} {ss sa sb : Ss} {t : Tg} {it : Mi.It} {lo hi : Eo} {f : Bi} {F : Sem}
@[simp] theorem v_d : vr (some (.d x)) μ = some (.ok x, μ) := nr rfl
@[simp] theorem e_var : ev (.var i) δ μ = vr δ[i]? μ := by simp only [ev]; generalize δ[i]? = o; rcases o with _ | o <;> first | rfl | (cases o <;> rfl)
@[simp] theorem e_con : ev (.con d) δ μ = some (.ok d, μ) := by simp only [ev, rR]
@[simp] theorem e_op : ev (.op o a b) δ μ = bindR (ev a δ μ) (k1 o b δ) := by simp only [ev]; rfl
@[simp] theorem e_k1 : k1 o b δ x μ = bindR (ev b δ μ) (k2 o x) := nr rfl
@[simp] theorem e_k2 : k2 o x y μ = optR (o.do μ x y) μ := nr rfl
@[simp] theorem e_neg : ev (.neg a) δ μ = bindR (ev a δ μ) kneg := by simp only [ev]; exact bx fun d μ => by cases d <;> first | rfl | (rename_i b; cases b <;> rfl)
@[simp] theorem e_kneg {i : Int} : kneg (.int i) μ = some (.ok (.int (-i)), μ) := nr rfl
@[simp] theorem e_not : ev (.not_ a) δ μ = bindR (ev a δ μ) knot := by simp only [ev]; exact bx fun d μ => by cases d <;> first | rfl | (rename_i b; cases b <;> rfl)
@[simp] theorem e_knot {b : Bool} : knot (.bl b) μ = some (.ok (.bl (!b)), μ) := nr rfl
@[simp] theorem e_nott : ev (.nott a) δ μ = bindR (ev a δ μ) knott := by simp only [ev]; rfl
@[simp] theorem e_knott : knott x μ = optR ((truD x).map fun b => .bl (!b)) μ := nr rfl
@[simp] theorem e_and : ev (.and_ a b) δ μ = bindR (ev a δ μ) (kand b δ) := by simp only [ev]; exact bx fun d μ => by cases d <;> first | rfl | (rename_i b; cases b <;> rfl)
@[simp] theorem e_kand1 : kand b δ (.bl true) μ = ev b δ μ := nr rfl
@[simp] theorem e_kand0 : kand b δ (.bl false) μ = some (.ok (.bl false), μ) := nr rfl
@[simp] theorem e_or : ev (.or_ a b) δ μ = bindR (ev a δ μ) (kor b δ) := by simp only [ev]; exact bx fun d μ => by cases d <;> first | rfl | (rename_i b; cases b <;> rfl)
@[simp] theorem e_kor1 : kor b δ (.bl true) μ = some (.ok (.bl true), μ) := nr rfl
@[simp] theorem e_kor0 : kor b δ (.bl false) μ = ev b δ μ := nr rfl
@[simp] theorem e_ite : ev (.ite c a b) δ μ = bindR (ev c δ μ) (kite a b δ) := by simp only [ev]; exact bx fun d μ => by cases d <;> first | rfl | (rename_i b; cases b <;> rfl)
@[simp] theorem e_kite1 : kite a b δ (.bl true) μ = ev a δ μ := nr rfl
@[simp] theorem e_kite0 : kite a b δ (.bl false) μ = ev b δ μ := nr rfl
@[simp] theorem e_chain : ev (.chain o o' a b c) δ μ = bindR (ev a δ μ) (kc1 o o' b c δ) := by simp only [ev]; exact bx fun x μ => bx fun y μ => bx fun d μ => by cases d <;> first | rfl | (rename_i b; cases b <;> rfl)
@[simp] theorem e_kc1 : kc1 o o' b c δ x μ = bindR (ev b δ μ) (kc2 o o' c δ x) := nr rfl
@[simp] theorem e_kc2 : kc2 o o' c δ x y μ = bindR (optR (o.do μ x y) μ) (kc3 o' c δ y) := nr rfl
@[simp] theorem e_kc31 : kc3 o c δ y (.bl true) μ = bindR (ev c δ μ) (k2 o y) := nr rfl
@[simp] theorem e_kc30 : kc3 o c δ y (.bl false) μ = some (.ok (.bl false), μ) := nr rfl
@[simp] theorem e_idx : ev (.idx a b) δ μ = bindR (ev a δ μ) (ki1 b δ) := by simp only [ev]; rfl
@[simp] theorem e_ki1 : ki1 b δ x μ = bindR (ev b δ μ) (ki2 x) := nr rfl
@[simp] theorem e_ki2 : ki2 x y μ = optR (ixD μ x y) μ := nr rfl
@[simp] theorem e_lidx : ev (.lidx i b) δ μ = kl0 b δ μ δ[i]? := by simp only [ev]; generalize δ[i]? = o; rcases o with _ | o <;> first | rfl | (cases o <;> first | rfl | exact bx fun d μ => by cases d <;> rfl)
@[simp] theorem e_kl0 : kl0 b δ μ (some (.lin xs)) = bindR (ev b δ μ) (kl xs) := nr rfl
@[simp] theorem e_kl {j : Int} : kl xs (.int j) μ = optR (L2.atI xs j) μ := nr rfl
@[simp] theorem e_slc : ev (.slc a lo hi) δ μ = bindR (ev a δ μ) (ks1 lo hi δ) := by simp only [ev]; rfl
@[simp] theorem e_ks1 : ks1 lo hi δ x μ = bindR (evo lo δ μ) (ks2 hi δ x) := nr rfl
@[simp] theorem e_ks2 {l : Option Int} : ks2 hi δ x l μ = bindR (evo hi δ μ) (ks3 x l) := nr rfl
@[simp] theorem e_ks3 {l h : Option Int} : ks3 x l h μ = optR (slD μ x l h) μ := nr rfl
@[simp] theorem e_rev : ev (.rev a) δ μ = bindR (ev a δ μ) krev := by simp only [ev]; rfl
@[simp] theorem e_krev : krev x μ = optR (revD μ x) μ := nr rfl
@[simp] theorem e_tup : ev (.tup es) δ μ = bindR (evs es δ μ) ktup := by simp only [ev]; rfl
@[simp] theorem e_ktup (hc : xs.length ≤ sizeLine) : ktup xs μ = some (.ok (.tup xs), μ) := if_pos hc
@[simp] theorem e_lst : ev (.lst es) δ μ = bindR (evs es δ μ) klst := by simp only [ev]; rfl
@[simp] theorem e_klst (hc : xs.length ≤ sizeLine) : klst xs μ = some (.ok (.lst xs), μ) := if_pos hc
@[simp] theorem e_mlst : ev (.mlst es) δ μ = bindR (evs es δ μ) kmlst := by simp only [ev]; rfl
@[simp] theorem e_kmlst (hc : xs.length ≤ sizeLine) : kmlst xs μ = some (.ok (.obj μ.length), μ ++ [.lst xs]) := if_pos hc
@[simp] theorem e_call : ev (.call F es) δ μ = bindR (evs es δ μ) F := by simp only [ev]; rfl
@[simp] theorem e_bi : ev (.bi f es) δ μ = bindR (evs es δ μ) (kb f) := by simp only [ev]; rfl
@[simp] theorem e_kb : kb f xs μ = optR (f.do μ xs) μ := nr rfl
@[simp] theorem e_comp {own : List Nat} : ev (.comp e t it c own) δ μ = bindR (evi it δ μ) (kcomp e t c own δ) := by simp only [ev]; rfl
@[simp] theorem e_lrng : ev (.lrng a) δ μ = bindR (ev a δ μ) klr := by simp only [ev]; exact bx fun d μ => by cases d <;> first | rfl | (rename_i b; cases b <;> rfl)
@[simp] theorem e_klr {j : Int} (hc : (decide (-(2 ^ 62) ≤ j) && decide (j ≤ 16777216)) = true) : klr (.int j) μ = some (.ok (.lst (rgD 0 j)), μ) := if_pos hc
@[simp] theorem e_err {nms : List (Str × Str)} : ev (.err nms e) δ μ = kerr nms (ev e δ μ) := by simp only [ev]; generalize ev e δ μ = r; rcases r with _ | ⟨r, _⟩ <;> first | rfl | (rcases r with ⟨_, _ | _⟩ | _ <;> rfl)
@[simp] theorem e_kerr1 {nms : List (Str × Str)} : kerr nms (some (.ok d, μ)) = some (.ok (.str ""), μ) := nr rfl
@[simp] theorem e_kerr0 {nms : List (Str × Str)} {z : Str} : kerr nms (some (.error (z, none), μ)) = optR ((nms.lookup z).map .str) μ := nr rfl
@[simp] theorem e_meth : ev (.meth f e es) δ μ = bindR (ev e δ μ) (km1 f es δ) := by simp only [ev]; exact bx fun d μ => by cases d <;> first | rfl | (rename_i b; cases b <;> rfl)
@[simp] theorem e_km1 {z : Str} : km1 f es δ (.str z) μ = bindR (evs es δ μ) (km2 f z) := nr rfl
@[simp] theorem e_km2 {z : Str} : km2 f z xs μ = optR (f.do μ (.str z :: xs)) μ := nr rfl
@[simp] theorem e_mrep : ev (.mrep a b) δ μ = bindR (ev a δ μ) (kmr1 b δ) := by simp only [ev]; exact bx fun x μ => bx fun d μ => by cases d <;> first | rfl | (rename_i b; cases b <;> rfl)
@[simp] theorem e_kmr1 : kmr1 b δ x μ = bindR (ev b δ μ) (kmr2 x) := nr rfl
@[simp] theorem e_kmr2 {j : Int} (hc : (decide (-(2 ^ 63) ≤ j) && decide (j < 2 ^ 63) && decide (j.toNat ≤ sizeLine)) = true) : kmr2 x (.int j) μ = some (.ok (.obj μ.length), μ ++ [.lst (List.replicate j.toNat x)]) := if_pos hc
@[simp] theorem e_dct {ks : List Str} : ev (.dct ks es) δ μ = bindR (evs es δ μ) (kdct ks) := by simp only [ev]; rfl
@[simp] theorem e_kdct {ks : List Str} (hc : (decide (ks.length = xs.length) && decide (ks.length ≤ 15) && decide ks.Nodup && !ks.isEmpty) = true) : kdct ks xs μ = some (.ok (.obj μ.length), μ ++ [.dct (ks.zip xs)]) := if_pos hc
@[simp] theorem e_nil : evs .nil δ μ = some (.ok [], μ) := by simp only [evs, rR]
@[simp] theorem e_cons : evs (.cons e es) δ μ = bindR (ev e δ μ) (kes es δ) := by simp only [evs]; rfl
@[simp] theorem e_kes : kes es δ x μ = bindR (evs es δ μ) (kes2 x) := nr rfl
@[simp] theorem e_kes2 : kes2 x xs μ = some (.ok (x :: xs), μ) := nr rfl
@[simp] theorem e_no : evo .no δ μ = some (.ok none, μ) := by simp only [evo, rR]
@[simp] theorem e_yes : evo (.yes e) δ μ = bindR (ev e δ μ) keo := by simp only [evo]; exact bx fun d μ => by cases d <;> first | rfl | (rename_i b; cases b <;> rfl)
@[simp] theorem e_keo {j : Int} : keo (.int j) μ = some (.ok (some j), μ) := nr rfl
@[simp] theorem e_seq : evi (.seq e) δ μ = bindR (ev e δ μ) kseq := by simp only [evi]; rfl
@[simp] theorem e_kseqt : kseq (.tup xs) μ = some (.ok xs, μ) := nr rfl
@[simp] theorem e_kseql : kseq (.lst xs) μ = some (.ok xs, μ) := nr rfl
@[simp] theorem e_rng : evi (.rng e) δ μ = bindR (ev e δ μ) krng := by simp only [evi]; exact bx fun d μ => by cases d <;> first | rfl | (rename_i b; cases b <;> rfl)
@[simp] theorem e_krng {j : Int} (hc : rgOk 0 j = true) : krng (.int j) μ = some (.ok (rgD 0 j), μ) := if_pos hc
@[simp] theorem e_rng2 : evi (.rng2 a b) δ μ = bindR (ev a δ μ) (krg1 b δ) := by simp only [evi]; exact bx fun x μ => bx fun y μ => by cases x <;> cases y <;> rfl
@[simp] theorem e_krg1 : krg1 b δ x μ = bindR (ev b δ μ) (krg2 x) := nr rfl
@[simp] theorem e_krg2 {i j : Int} (hc : rgOk i j = true) : krg2 (.int i) (.int j) μ = some (.ok (rgD i j), μ) := if_pos hc
@[simp] theorem e_enum : evi (.enum e) δ μ = bindR (ev e δ μ) kenum := by simp only [evi]; rfl
@[simp] theorem e_kenumt : kenum (.tup xs) μ = some (.ok (enumD xs), μ) := nr rfl
@[simp] theorem e_kenuml : kenum (.lst xs) μ = some (.ok (enumD xs), μ) := nr rfl
@[simp] theorem e_zip : evi (.zip a b) δ μ = bindR (ev a δ μ) (kzip1 b δ) := by simp only [evi]; rfl
@[simp] theorem e_kzip1 : kzip1 b δ x μ = bindR (ev b δ μ) (kzip2 x) := nr rfl
@[simp] theorem e_kzipt {ys : List D} : kzip2 (.tup xs) (.tup ys) μ = some (.ok (zipD xs ys), μ) := nr rfl
@[simp] theorem e_kzipl {ys : List D} : kzip2 (.lst xs) (.lst ys) μ = some (.ok (zipD xs ys), μ) := nr rfl
@[simp] theorem nxt_s {δ' : List Sl} : nxt (some δ') μ = some (.nx, δ', μ) := nr rfl
@[simp] theorem x_pass : ex .pass δ μ = some (.nx, δ, μ) := by simp only [ex]
@[simp] theorem x_expr : ex (.expr e) δ μ = thenE (ev e δ μ) δ (kexp δ) := by simp only [ex]; rfl
@[simp] theorem x_kexp : kexp δ x μ = some (.nx, δ, μ) := nr rfl
@[simp] theorem x_set : ex (.set t e) δ μ = thenE (ev e δ μ) δ (kset t δ) := by simp only [ex]; rfl
@[simp] theorem x_kset : kset t δ x μ = nxt (t.put x δ) μ := nr rfl
@[simp] theorem x_ret : ex (.ret e) δ μ = thenE (ev e δ μ) δ (kret δ) := by simp only [ex]; rfl
@[simp] theorem x_kret : kret δ x μ = some (.rt x, δ, μ) := nr rfl
@[simp] theorem x_retn : ex .retn δ μ = some (.rt .non, δ, μ) := by simp only [ex]
@[simp] theorem x_ite : ex (.ite c sa sb) δ μ = thenE (ev c δ μ) δ (kif sa sb δ) := by simp only [ex]; exact tx fun d μ => by cases d <;> first | rfl | (rename_i b; cases b <;> rfl)
@[simp] theorem x_kif1 : kif sa sb δ (.bl true) μ = exs sa δ μ := nr rfl
@[simp] theorem x_kif0 : kif sa sb δ (.bl false) μ = exs sb δ μ := nr rfl
@[simp] theorem x_for : ex (.for_ t it ss) δ μ = thenE (evi it δ μ) δ (kfor t ss δ) := by simp only [ex]; rfl
theorem x_kfor : kfor t ss δ xs μ = forL t (exs ss) xs δ μ := rfl
@[simp] theorem x_while {n : Nat} : ex (.while_ n c ss) δ μ = whileL (ev c) (exs ss) n δ μ := by simp only [ex]
@[simp] theorem x_brk : ex .brk δ μ = some (.bk, δ, μ) := by simp only [ex]
@[simp] theorem x_cont : ex .cont δ μ = some (.ct, δ, μ) := by simp only [ex]
@[simp] theorem x_raise {z : Str} : ex (.raise z) δ μ = some (.ex (z, none), δ, μ) := by simp only [ex]
@[simp] theorem x_put : ex (.put a b e) δ μ = thenE (ev e δ μ) δ (kp1 a b δ) := by simp only [ex]; rfl
@[simp] theorem x_kp1 : kp1 a b δ x μ = thenE (ev a δ μ) δ (kp2 b δ x) := nr rfl
@[simp] theorem x_kp2 : kp2 b δ x y μ = thenE (ev b δ μ) δ (kp3 δ x y) := nr rfl
@[simp] theorem x_kp3 : kp3 δ x y d μ = nxm δ (putD μ y d x) := nr rfl
@[simp] theorem nxm_s {μ' : List Mo} : nxm δ (some μ') = some (.nx, δ, μ') := nr rfl
@[simp] theorem x_lin : ex (.lin i es) δ μ = thenE (evs es δ μ) δ (klin i δ) := by simp only [ex]; rfl
@[simp] theorem x_klin (hc : xs.length ≤ sizeLine) : klin i δ xs μ = some (.nx, δ.set i (.lin xs), μ) := if_pos hc
@[simp] theorem x_app : ex (.app i e) δ μ = kapp0 i e δ μ δ[i]? := by simp only [ex]; generalize δ[i]? = o; rcases o with _ | o <;> first | rfl | (cases o <;> rfl)
@[simp] theorem x_kapp0 : kapp0 i e δ μ (some (.lin xs)) = thenE (ev e δ μ) δ (kapp i δ xs) := nr rfl
@[simp] theorem x_kapp (hc : xs.length < sizeLine) : kapp i δ xs x μ = some (.nx, δ.set i (.lin (xs ++ [x])), μ) := if_pos hc
@[simp] theorem x_still : ex (.still i) δ μ = kstill i δ μ δ[i]? := by simp only [ex]; generalize δ[i]? = o; rcases o with _ | o <;> first | rfl | (cases o <;> rfl)
@[simp] theorem x_kstill : kstill i δ μ (some (.lin xs)) = some (.nx, δ.set i (.d (.lst xs)), μ) := nr rfl
@[simp] theorem x_nil : exs .nil δ μ = some (.nx, δ, μ) := by simp only [exs]
@[simp] theorem x_cons : exs (.cons s ss) δ μ = thenS (ex s δ μ) (exs ss) := by simp only [exs]; rfl
@[simp] theorem p_name : Tg.put (.name i) d δ = some (δ.set i (.d d)) := nr rfl
@[simp] theorem p_pair {t' : Tg} : Tg.put (.pair t t') (.tup [x, y]) δ = (t.put x δ).bind fun δ => t'.put y δ := nr rfl
@[simp] theorem p_pairl {t' : Tg} : Tg.put (.pair t t') (.lst [x, y]) δ = (t.put x δ).bind fun δ => t'.put y δ := nr rfl
@[simp] theorem p_trip {t' t2 : Tg} {z : D} : Tg.put (.trip t t' t2) (.tup [x, y, z]) δ = (t.put x δ).bind fun δ => (t'.put y δ).bind fun δ => t2.put z δ := nr rfl
/-! operators one by one -/
@[simp] theorem o_add {a b : D} : Op.do .add μ a b = addD μ a b := nr rfl
@[simp] theorem o_sub {i j : Int} : Op.do .sub μ (.int i) (.int j) = some (.int (i - j)) := nr rfl
@[simp] theorem o_mul {a b : D} : Op.do .mul μ a b = mulD a b := nr rfl
@[simp] theorem o_mod {i j : Int} (hc : 0 < j) : Op.do .mod μ (.int i) (.int j) = some (.int (i % j)) := if_pos hc
@[simp] theorem o_fdiv {i j : Int} (hc : (decide (0 < j) && decide (j.natAbs.log2 < 9000)) = true) : Op.do .fdiv μ (.int i) (.int j) = some (.int (i / j)) := if_pos hc
@[simp] theorem o_lt {i j : Int} : Op.do (.cm .lt) μ (.int i) (.int j) = some (.bl (decide (i < j))) := nr rfl
@[simp] theorem o_le {i j : Int} : Op.do (.cm .le) μ (.int i) (.int j) = some (.bl (decide (i ≤ j))) := nr rfl
@[simp] theorem o_gt {i j : Int} : Op.do (.cm .gt) μ (.int i) (.int j) = some (.bl (decide (j < i))) := nr rfl
@[simp] theorem o_ge {i j : Int} : Op.do (.cm .ge) μ (.int i) (.int j) = some (.bl (decide (j ≤ i))) := nr rfl
@[simp] theorem o_eq {a b : D} : Op.do .eq μ a b = (eqD μ a b).map .bl := nr rfl
@[simp] theorem o_ne {a b : D} : Op.do .ne μ a b = (eqD μ a b).map fun r => .bl (!r) := nr rfl
@[simp] theorem o_is {a b : D} : Op.do .is_ μ a b = (isD a b).map .bl := nr rfl
@[simp] theorem o_isn {a b : D} : Op.do .isn μ a b = (isD a b).map fun r => .bl (!r) := nr rfl
@[simp] theorem a_int {i j : Int} : addD μ (.int i) (.int j) = some (.int (i + j)) := nr rfl
@[simp] theorem a_tup {xs ys : List D} (hc : xs.length + ys.length ≤ sizeLine) : addD μ (.tup xs) (.tup ys) = some (.tup (xs ++ ys)) := if_pos hc
@[simp] theorem a_lst {xs ys : List D} (hc : xs.length + ys.length ≤ sizeLine) : addD μ (.lst xs) (.lst ys) = some (.lst (xs ++ ys)) := if_pos hc
@[simp] theorem a_str {z w : Str} (hc : z.length + w.length ≤ sizeLine) : addD μ (.str z) (.str w) = some (.str (z ++ w)) := if_pos hc
@[simp] theorem ix_t {j : Int} : ixD μ (.tup xs) (.int j) = L2.atI xs j := nr rfl
@[simp] theorem ix_l {j : Int} : ixD μ (.lst xs) (.int j) = L2.atI xs j := nr rfl
@[simp] theorem ix_s {ns : List Int} {j : Int} : ixD μ (.scr ns) (.int j) = (L2.atI ns j).map .int := nr rfl
@[simp] theorem sl_t {l h : Option Int} : slD μ (.tup xs) l h = some (.tup (cutL xs l h)) := nr rfl
@[simp] theorem sl_l {l h : Option Int} : slD μ (.lst xs) l h = some (.lst (cutL xs l h)) := nr rfl
@[simp] theorem is_non : isD .non .non = some true := nr rfl
@[simp] theorem is_tup : isD (.tup xs) .non = some false := nr rfl
@[simp] theorem b_len_t : Bi.do .len μ [.tup xs] = some (.int xs.length) := nr rfl
@[simp] theorem b_len_l : Bi.do .len μ [.lst xs] = some (.int xs.length) := nr rfl
@[simp] theorem b_len_s {ns : List Int} : Bi.do .len μ [.scr ns] = some (.int ns.length) := nr rfl
@[simp] theorem b_int {j : Int} : Bi.do .int μ [.int j] = some (.int j) := nr rfl
@[simp] theorem b_abs {j : Int} : Bi.do .abs μ [.int j] = some (.int (if j < 0 then -j else j)) := nr rfl
@[simp] theorem b_tuple_l : Bi.do .tuple μ [.lst xs] = some (.tup xs) := nr rfl
@[simp] theorem b_tuple_t : Bi.do .tuple μ [.tup xs] = some (.tup xs) := nr rfl
@[simp] theorem b_list_l : Bi.do .list μ [.lst xs] = some (.lst xs) := nr rfl
@[simp] theorem b_list_t : Bi.do .list μ [.tup xs] = some (.lst xs) := nr rfl
@[simp] theorem b_min {i j : Int} : Bi.do .min μ [.int i, .int j] = some (.int (if j < i then j else i)) := nr rfl
@[simp] theorem b_max {i j : Int} : Bi.do .max μ [.int i, .int j] = some (.int (if j > i then j else i)) := nr rfl
@[simp] theorem b_str {z : Str} : Bi.do .str μ [.str z] = some (.str z) := nr rfl
theorem ix_o {n : Nat} {j : Int} (h : μ[n]? = some (.lst xs)) : ixD μ (.obj n) (.int j) = L2.atI xs j := by simp only [ixD, see, h]
end
section
variable {α : Type} {x y z w u : α} {xs : List α}
@[simp] theorem at0 : L2.atI (x :: xs) 0 = some x := by
  have h : (0 : Int) < ((x :: xs).length : Int) := by simp only [List.length_cons]; omega
  unfold L2.atI L2.ixN
  rw [if_pos (by omega), if_pos h]; rfl
@[simp] theorem at1 : L2.atI (x :: y :: xs) 1 = some y := by
  have h : (1 : Int) < ((x :: y :: xs).length : Int) := by simp only [List.length_cons]; omega
  unfold L2.atI L2.ixN
  rw [if_pos (by omega), if_pos h]; rfl
@[simp] theorem at2 : L2.atI (x :: y :: z :: xs) 2 = some z := by
  have h : (2 : Int) < ((x :: y :: z :: xs).length : Int) := by simp only [List.length_cons]; omega
  unfold L2.atI L2.ixN
  rw [if_pos (by omega), if_pos h]; rfl
@[simp] theorem at3 : L2.atI (x :: y :: z :: w :: xs) 3 = some w := by
  have h : (3 : Int) < ((x :: y :: z :: w :: xs).length : Int) := by simp only [List.length_cons]; omega
  unfold L2.atI L2.ixN
  rw [if_pos (by omega), if_pos h]; rfl
@[simp] theorem at4 : L2.atI (x :: y :: z :: w :: u :: xs) 4 = some u := by
  have h : (4 : Int) < ((x :: y :: z :: w :: u :: xs).length : Int) := by simp only [List.length_cons]; omega
  unfold L2.atI L2.ixN
  rw [if_pos (by omega), if_pos h]; rfl
end
theorem szL : sizeLine = 16777216 := sizeLine_eq
end Ev
set_option Elab.async false
set_option linter.all false
set_option maxRecDepth 100000
set_option maxHeartbeats 4000000
/-! Evq: == and in of data. -/
namespace Ev
open PySem L2 Mi
mutual
/-- == -/
def eqb : D → D → Bool
  | .non, .non => true
  | .bl a, .bl b => a == b
  | .bl a, .int j => (if a = true then (1 : Int) else 0) == j
  | .int i, .bl b => i == (if b = true then (1 : Int) else 0)
  | .int i, .int j => i == j
  | .str x, .str y => x == y
  | .lst xs, .lst ys => eqbs xs ys
  | .tup xs, .tup ys => eqbs xs ys
  | _, _ => false
def eqbs : List D → List D → Bool
  | [], [] => true
  | x :: xs, y :: ys => eqb x y && eqbs xs ys
  | _, _ => false
end
mutual
/-- plain data, at most n deep -/
def okN : Nat → D → Bool
  | _, .non => true
  | _, .bl _ => true
  | _, .int _ => true
  | _, .str x => PyData.strOk x
  | n + 1, .tup xs => okNs n xs
  | n + 1, .lst xs => okNs n xs
  | _, _ => false
def okNs : Nat → List D → Bool
  | _, [] => true
  | n, x :: xs => okN n x && okNs n xs
end
mutual
theorem ok_py : ∀ (n : Nat) (a : D), okN n a = true → ∃ p, py0 a = some p ∧ p.canLay0 = true ∧ p.depth ≤ n
  | _, .non, _ => ⟨_, rfl, by simp [PyData.canLay0], by simp [PyData.depth]⟩
  | _, .bl _, _ => ⟨_, rfl, by simp [PyData.canLay0], by simp [PyData.depth]⟩
  | _, .int _, _ => ⟨_, rfl, by simp [PyData.canLay0], by simp [PyData.depth]⟩
  | _, .str x, h => ⟨_, rfl, by simpa [PyData.canLay0, okN] using h, by simp [PyData.depth]⟩
  | n + 1, .tup xs, h => by
    obtain ⟨ps, h1, h2, h3⟩ := oks_py n xs (by simpa [okN] using h)
    exact ⟨.tuple ps, by simp [py0, h1], by simpa [PyData.canLay0] using h2, by simp [PyData.depth]; omega⟩
  | n + 1, .lst xs, h => by
    obtain ⟨ps, h1, h2, h3⟩ := oks_py n xs (by simpa [okN] using h)
    exact ⟨.list ps, by simp [py0, h1], by simpa [PyData.canLay0] using h2, by simp [PyData.depth]; omega⟩
  | 0, .tup _, h => by simp [okN] at h
  | 0, .lst _, h => by simp [okN] at h
  | n, .ty _, h => by cases n <;> simp [okN] at h
  | n, .glo _, h => by cases n <;> simp [okN] at h
  | n, .obj _, h => by cases n <;> simp [okN] at h
  | n, .scr _, h => by cases n <;> simp [okN] at h
theorem oks_py : ∀ (n : Nat) (xs : List D), okNs n xs = true → ∃ ps, py0s xs = some ps ∧ PyData.canLayAll0 ps = true ∧ PyData.depthAll ps ≤ n
  | _, [], _ => ⟨[], rfl, by simp [PyData.canLayAll0], by simp [PyData.depthAll]⟩
  | n, x :: xs, h => by
    simp only [okNs, Bool.and_eq_true] at h
    obtain ⟨p, h1, h2, h3⟩ := ok_py n x h.1
    obtain ⟨ps, h4, h5, h6⟩ := oks_py n xs h.2
    exact ⟨p :: ps, by simp [py0s, h1, h4], by simp [PyData.canLayAll0, h2, h5], by simp [PyData.depthAll]; omega⟩
end
mutual
theorem eqv_eqb : ∀ (a b : D) (p q : PyData), py0 a = some p → py0 b = some q → PyData.eqv p q = eqb a b
  | .tup xs, .tup ys, p, q, h1, h2 => by
    simp only [py0, Option.map_eq_some_iff] at h1 h2
    obtain ⟨ps, h1, rfl⟩ := h1
    obtain ⟨qs, h2, rfl⟩ := h2
    simp only [PyData.eqv, eqb]
    exact eqvs_eqbs xs ys ps qs h1 h2
  | .lst xs, .lst ys, p, q, h1, h2 => by
    simp only [py0, Option.map_eq_some_iff] at h1 h2
    obtain ⟨ps, h1, rfl⟩ := h1
    obtain ⟨qs, h2, rfl⟩ := h2
    simp only [PyData.eqv, eqb]
    exact eqvs_eqbs xs ys ps qs h1 h2
  | .non, b, p, q, h1, h2 => by cases b <;> simp [py0] at h1 h2 <;> first | (subst h1; first | (subst h2; simp [PyData.eqv, eqb]; done) | (obtain ⟨_, _, rfl⟩ := h2; simp [PyData.eqv, eqb]; done)) | skip
  | .bl a, b, p, q, h1, h2 => by cases b <;> simp [py0] at h1 h2 <;> first | (subst h1; first | (subst h2; simp [PyData.eqv, eqb]; done) | (obtain ⟨_, _, rfl⟩ := h2; simp [PyData.eqv, eqb]; done)) | skip
  | .int a, b, p, q, h1, h2 => by cases b <;> simp [py0] at h1 h2 <;> first | (subst h1; first | (subst h2; simp [PyData.eqv, eqb]; done) | (obtain ⟨_, _, rfl⟩ := h2; simp [PyData.eqv, eqb]; done)) | skip
  | .str a, b, p, q, h1, h2 => by cases b <;> simp [py0] at h1 h2 <;> first | (subst h1; first | (subst h2; simp [PyData.eqv, eqb]; done) | (obtain ⟨_, _, rfl⟩ := h2; simp [PyData.eqv, eqb]; done)) | skip
  | .tup xs, b, p, q, h1, h2 => by
    cases b <;> simp [py0] at h1 h2 <;> (obtain ⟨ps, h1, rfl⟩ := h1) <;> first
      | (subst h2; simp [PyData.eqv, eqb]; done)
      | (obtain ⟨qs, h2, rfl⟩ := h2; first | (simp [PyData.eqv, eqb]; done) | (simp only [PyData.eqv, eqb]; exact eqvs_eqbs _ _ _ _ h1 h2))
  | .lst xs, b, p, q, h1, h2 => by
    cases b <;> simp [py0] at h1 h2 <;> (obtain ⟨ps, h1, rfl⟩ := h1) <;> first
      | (subst h2; simp [PyData.eqv, eqb]; done)
      | (obtain ⟨qs, h2, rfl⟩ := h2; first | (simp [PyData.eqv, eqb]; done) | (simp only [PyData.eqv, eqb]; exact eqvs_eqbs _ _ _ _ h1 h2))
  | .ty _, _, _, _, h1, _ => by simp [py0] at h1
  | .glo _, _, _, _, h1, _ => by simp [py0] at h1
  | .obj _, _, _, _, h1, _ => by simp [py0] at h1
  | .scr _, _, _, _, h1, _ => by simp [py0] at h1
theorem eqvs_eqbs : ∀ (xs ys : List D) (ps qs : List PyData), py0s xs = some ps → py0s ys = some qs → PyData.eqvAll ps qs = eqbs xs ys
  | [], [], ps, qs, h1, h2 => by
    simp [py0s] at h1 h2
    subst h1 h2
    simp [PyData.eqvAll, eqbs]
  | x :: xs, y :: ys, ps, qs, h1, h2 => by
    simp only [py0s, Option.bind_eq_some_iff, Option.map_eq_some_iff] at h1 h2
    obtain ⟨p, h3, ps', h4, rfl⟩ := h1
    obtain ⟨q, h5, qs', h6, rfl⟩ := h2
    simp only [PyData.eqvAll, eqbs, eqv_eqb x y p q h3 h5, eqvs_eqbs xs ys ps' qs' h4 h6]
  | [], y :: ys, ps, qs, h1, h2 => by
    simp only [py0s, Option.bind_eq_some_iff, Option.map_eq_some_iff, Option.some.injEq] at h1 h2
    subst h1
    obtain ⟨q, h5, qs', h6, rfl⟩ := h2
    simp [PyData.eqvAll, eqbs]
  | x :: xs, [], ps, qs, h1, h2 => by
    simp only [py0s, Option.bind_eq_some_iff, Option.map_eq_some_iff, Option.some.injEq] at h1 h2
    subst h2
    obtain ⟨p, h3, ps', h4, rfl⟩ := h1
    simp [PyData.eqvAll, eqbs]
end
theorem see_ok {μ : List Mo} {n : Nat} {a : D} (h : okN n a = true) : see μ a = a := by
  cases a with
  | obj k => cases n <;> simp [okN] at h
  | _ => rfl
theorem eqD_ok {μ : List Mo} {a b : D} (ha : okN 64 a = true) (hb : okN 64 b = true) : eqD μ a b = some (eqb a b) := by
  obtain ⟨p, h1, h2, h3⟩ := ok_py 64 a ha
  obtain ⟨q, h4, h5, h6⟩ := ok_py 64 b hb
  unfold eqD
  rw [see_ok ha, see_ok hb, h1, h4]
  simp only [Option.bind_some]
  rw [if_pos (by simp [SeqAt.shaped, h2, h3, h5, h6]), eqv_eqb a b p q h1 h4]
theorem any_eqb {a : D} {p : PyData} (h : py0 a = some p) : ∀ {ds : List D} {qs : List PyData}, py0s ds = some qs → (qs.any fun z => PyData.eqv z p) = ds.any fun z => eqb z a
  | [], qs, h2 => by
    simp [py0s] at h2
    subst h2
    rfl
  | d :: ds, qs, h2 => by
    simp only [py0s, Option.bind_eq_some_iff, Option.map_eq_some_iff] at h2
    obtain ⟨q, h5, qs', h6, rfl⟩ := h2
    rw [List.any_cons, List.any_cons, any_eqb h h6, eqv_eqb d a q p h5 h]
theorem inD_t {μ : List Mo} {a : D} {ds : List D} (ha : okN 64 a = true) (hb : okNs 63 ds = true) : inD μ a (.tup ds) = some (ds.any fun z => eqb z a) := by
  obtain ⟨p, h1, h2, h3⟩ := ok_py 64 a ha
  obtain ⟨qs, h4, h5, h6⟩ := oks_py 63 ds hb
  have e : inD μ a (.tup ds) = (py0 (see μ a)).bind fun p => (py0s ds).bind fun qs => if (SeqAt.shaped p && SeqAt.shaped (.tuple qs)) = true then some (qs.any fun z => PyData.eqv z p) else none := rfl
  rw [e, see_ok ha, h1, h4]
  simp only [Option.bind_some]
  rw [if_pos (by simp [SeqAt.shaped, h2, h3, PyData.canLay0, PyData.depth, h5]; omega), any_eqb h1 h4]
theorem inD_l {μ : List Mo} {a : D} {ds : List D} (ha : okN 64 a = true) (hb : okNs 63 ds = true) : inD μ a (.lst ds) = some (ds.any fun z => eqb z a) := by
  obtain ⟨p, h1, h2, h3⟩ := ok_py 64 a ha
  obtain ⟨qs, h4, h5, h6⟩ := oks_py 63 ds hb
  have e : inD μ a (.lst ds) = (py0 (see μ a)).bind fun p => (py0s ds).bind fun qs => if (SeqAt.shaped p && SeqAt.shaped (.list qs)) = true then some (qs.any fun z => PyData.eqv z p) else none := rfl
  rw [e, see_ok ha, h1, h4]
  simp only [Option.bind_some]
  rw [if_pos (by simp [SeqAt.shaped, h2, h3, PyData.canLay0, PyData.depth, h5]; omega), any_eqb h1 h4]
mutual
theorem okN_mono : ∀ (n m : Nat) (a : D), n ≤ m → okN n a = true → okN m a = true
  | _, m, .non, _, _ => by cases m <;> rfl
  | _, m, .bl _, _, _ => by cases m <;> rfl
  | _, m, .int _, _, _ => by cases m <;> rfl
  | n, m, .str x, _, h => by cases n <;> cases m <;> simpa [okN] using h
  | n + 1, m + 1, .tup xs, hm, h => by simp only [okN] at h ⊢; exact okNs_mono n m xs (by omega) h
  | n + 1, m + 1, .lst xs, hm, h => by simp only [okN] at h ⊢; exact okNs_mono n m xs (by omega) h
  | 0, _, .tup _, _, h => by simp [okN] at h
  | 0, _, .lst _, _, h => by simp [okN] at h
  | n + 1, 0, _, hm, _ => by omega
  | n, _, .ty _, _, h => by cases n <;> simp [okN] at h
  | n, _, .glo _, _, h => by cases n <;> simp [okN] at h
  | n, _, .obj _, _, h => by cases n <;> simp [okN] at h
  | n, _, .scr _, _, h => by cases n <;> simp [okN] at h
theorem okNs_mono : ∀ (n m : Nat) (xs : List D), n ≤ m → okNs n xs = true → okNs m xs = true
  | _, _, [], _, _ => by simp [okNs]
  | n, m, x :: xs, hm, h => by
    simp only [okNs, Bool.and_eq_true] at h ⊢
    exact ⟨okN_mono n m x hm h.1, okNs_mono n m xs hm h.2⟩
end
theorem okNs_all {n : Nat} : ∀ {xs : List D}, (∀ x ∈ xs, okN n x = true) → okNs n xs = true
  | [], _ => rfl
  | x :: xs, h => by
    simp only [okNs, Bool.and_eq_true]
    exact ⟨h x List.mem_cons_self, okNs_all fun y hy => h y (List.mem_cons_of_mem _ hy)⟩
theorem eq_lnil {μ : List Mo} {xs : List D} (h : okNs 63 xs = true) : eqD μ (.lst xs) (.lst []) = some xs.isEmpty := by
  rw [eqD_ok (by simpa [okN] using h) (by rfl)]
  cases xs <;> simp [eqb, eqbs]
theorem eq_tnil {μ : List Mo} {xs : List D} (h : okNs 63 xs = true) : eqD μ (.tup xs) (.tup []) = some xs.isEmpty := by
  rw [eqD_ok (by simpa [okN] using h) (by rfl)]
  cases xs <;> simp [eqb, eqbs]
mutual
theorem eqb_rfl : ∀ (n : Nat) (a : D), okN n a = true → eqb a a = true
  | _, .non, _ => rfl
  | _, .bl b, _ => by simp [eqb]
  | _, .int _, _ => by simp [eqb]
  | _, .str x, _ => by simp [eqb]
  | n + 1, .tup xs, h => by simp only [eqb]; exact eqbs_rfl n xs (by simpa [okN] using h)
  | n + 1, .lst xs, h => by simp only [eqb]; exact eqbs_rfl n xs (by simpa [okN] using h)
  | 0, .tup _, h => by simp [okN] at h
  | 0, .lst _, h => by simp [okN] at h
  | n, .ty _, h => by cases n <;> simp [okN] at h
  | n, .glo _, h => by cases n <;> simp [okN] at h
  | n, .obj _, h => by cases n <;> simp [okN] at h
  | n, .scr _, h => by cases n <;> simp [okN] at h
theorem eqbs_rfl : ∀ (n : Nat) (xs : List D), okNs n xs = true → eqbs xs xs = true
  | _, [], _ => rfl
  | n, x :: xs, h => by
    simp only [okNs, Bool.and_eq_true] at h
    simp only [eqbs, eqb_rfl n x h.1, eqbs_rfl n xs h.2, Bool.and_self]
end
theorem eq_same {μ : List Mo} {a : D} (h : okN 64 a = true) : eqD μ a a = some true := by rw [eqD_ok h h, eqb_rfl 64 a h]
@[simp] theorem eq_int {μ : List Mo} {i j : Int} : eqD μ (.int i) (.int j) = some (decide (i = j)) := by
  rw [eqD_ok (by rfl) (by rfl)]
  simp only [eqb]
  congr 1
end Ev
set_option Elab.async false
set_option linter.all false
set_option maxRecDepth 100000
set_option maxHeartbeats 4000000
/-! Dra: what the laws draw: numbers, items. -/
namespace Dr
open PySem L2 Mi Pg
/-- the state of a source of numbers at the thing n -/
def Vat (μ : List Mo) (n : Nat) : Prop := ∃ a b : Int, μ[n]? = some (.lst [.int a, .int b]) ∧ 0 ≤ a ∧ 0 ≤ b ∧ b < 2 ^ 32
/-- drawn from the thing n: all else stands -/
structure Dn (n : Nat) (μ μ' : List Mo) : Prop where
  vat : Vat μ' n
  len : μ'.length = μ.length
  oth : ∀ m, m ≠ n → μ'[m]? = μ[m]?
theorem Dn.trans {n : Nat} {μ μ1 μ2 : List Mo} (a : Dn n μ μ1) (b : Dn n μ1 μ2) : Dn n μ μ2 := ⟨b.vat, b.len.trans a.len, fun m h => (b.oth m h).trans (a.oth m h)⟩
theorem Dn.of_set {n : Nat} {μ : List Mo} {a b : Int} (h : n < μ.length) (ha : 0 ≤ a) (hb : 0 ≤ b) (hb2 : b < 2 ^ 32) : Dn n μ (μ.set n (.lst [.int a, .int b])) :=
  ⟨⟨a, b, by rw [List.getElem?_set_self h], ha, hb, hb2⟩, by simp, fun m hm => by rw [List.getElem?_set_ne hm.symm]⟩
theorem Vat.dn {n : Nat} {μ : List Mo} (h : Vat μ n) : Dn n μ μ := ⟨h, rfl, fun _ _ => rfl⟩
theorem Vat.lt {n : Nat} {μ : List Mo} (h : Vat μ n) : n < μ.length := by
  obtain ⟨a, b, e, _⟩ := h
  exact (List.getElem?_eq_some_iff.mp e).1
theorem log_small {m : Int} (h0 : 0 < m) (h : m < 2 ^ 64) : m.natAbs.log2 < 9000 := by
  have : m.natAbs < 2 ^ 64 := by omega
  have h2 : m.natAbs ≠ 0 := by omega
  have := (Nat.log2_lt h2).mpr this
  omega
theorem under_spec {n : Nat} {μ : List Mo} {m : Int} (v : Vat μ n) (h0 : 0 < m) (h1 : m < 2 ^ 64) : ∃ r μ', F_law_under [.obj n, .int m] μ = some (.ok (.int r), μ') ∧ Dn n μ μ' ∧ 0 ≤ r ∧ r < m := by
  have hlt := v.lt
  obtain ⟨a, b, e, ha, hb, hb2⟩ := v
  have hl := log_small h0 h1
  by_cases hp : 0 < a
  · refine ⟨a % m, μ.set n (.lst [.int (a / m), .int b]), ?_, Dn.of_set hlt (Int.ediv_nonneg ha (by omega)) hb hb2, Int.emod_nonneg _ (by omega), Int.emod_lt_of_pos _ h0⟩
    simp [F_law_under, Mi.run, B__law_under, exs, ex, ev, evs, thenE, thenS, bindR, retR, optR, ixD, see, e, L2.atI, L2.ixN, Op.do, cmD, Cm.int, hp, Bi.do, Tg.put, h0, hl, putD]
  · have ha0 : a = 0 := by omega
    subst ha0
    have hb3 : 0 ≤ (b * 39373 + 101) % 2147483629 := Int.emod_nonneg _ (by omega)
    have hb4 : (b * 39373 + 101) % 2147483629 < 2147483629 := Int.emod_lt_of_pos _ (by omega)
    obtain ⟨c, hc⟩ : ∃ c, (b * 39373 + 101) % 2147483629 = c := ⟨_, rfl⟩
    rw [hc] at hb3 hb4
    have s1 : Mi.small64 39373 = true := by decide
    have s2 : Mi.small64 c = true := by unfold Mi.small64; simp; omega
    refine ⟨(c * (c / 5 + 9) % 2147483587 / 32) % m, μ.set n (.lst [.int 0, .int c]), ?_, Dn.of_set hlt (by omega) hb3 (by omega), Int.emod_nonneg _ (by omega), Int.emod_lt_of_pos _ h0⟩
    have e2 : (μ.set n (Mo.lst [D.int 0, D.int c]))[n]? = some (Mo.lst [D.int 0, D.int c]) := by rw [List.getElem?_set_self hlt]
    have l5 : Nat.log2 5 < 9000 := by decide
    have l32 : Nat.log2 32 < 9000 := by decide
    simp [F_law_under, Mi.run, B__law_under, exs, ex, ev, evs, thenE, thenS, bindR, retR, optR, ixD, see, e, L2.atI, L2.ixN, Op.do, cmD, Cm.int, Bi.do, Tg.put, h0, hl, putD, mulD, mulOk, s1, addD, hc, e2, s2, l5, l32]
theorem atI_of {α : Type} {xs : List α} {r : Int} (h0 : 0 ≤ r) (h1 : r < xs.length) : ∃ x ∈ xs, L2.atI xs r = some x := by
  have hl : r.toNat < xs.length := by omega
  refine ⟨xs[r.toNat], List.getElem_mem hl, ?_⟩
  unfold L2.atI L2.ixN
  rw [if_pos h0, if_pos h1, Option.bind_some, List.getElem?_eq_getElem hl]
theorem some_spec {n : Nat} {μ : List Mo} {xs : List D} (v : Vat μ n) (hx : xs ≠ []) (hl : xs.length < 2 ^ 60) : ∃ x ∈ xs, ∃ μ', F_law_some [.obj n, .lst xs] μ = some (.ok x, μ') ∧ Dn n μ μ' := by
  have hp : 0 < xs.length := List.length_pos_iff.mpr hx
  obtain ⟨r, μ', e, d, h0, h1⟩ := under_spec (m := (xs.length : Int)) v (by omega) (by omega)
  obtain ⟨x, hm, ea⟩ := atI_of h0 h1
  refine ⟨x, hm, μ', ?_, d⟩
  simp [F_law_some, Mi.run, B__law_some, exs, ex, ev, evs, thenE, thenS, bindR, retR, optR, Bi.do, lenD, e, ixD, see, ea]
end Dr
set_option Elab.async false
set_option linter.all false
set_option maxRecDepth 100000
set_option maxHeartbeats 4000000
/-! Drb: boards as data of their own; the boards that the laws draw. -/
namespace Dr
open PySem L2 Mi Pg Ev
inductive Src | x | y | c (i : Nat)
def Src.d : Src → D
  | .x => .str "x"
  | .y => .str "y"
  | .c i => .int i
inductive When | card | hole | plain | minor | major
def When.d : When → D
  | .card => .str "card"
  | .hole => .str "hole"
  | .plain => .str "plain"
  | .minor => .str "minor"
  | .major => .str "major"
/-- at a card, not at a break -/
def When.cardy : When → Bool
  | .card => true
  | .hole => true
  | .plain => true
  | _ => false
inductive Act | add (less : Bool) (s : Src) (i : Nat) | clear (i : Nat) | set (i : Nat) (b : Bool) | print (ss : List Src)
def Act.d : Act → D
  | .add l s i => .tup [.str (if l = true then "less" else "add"), s.d, .int i]
  | .clear i => .tup [.str "clear", .int i]
  | .set i b => .tup [.str "set", .int i, .bl b]
  | .print ss => .tup [.str "print", .tup (ss.map Src.d)]
structure Wire where
  when : When
  sw : Option (Nat × Bool)
  act : Act
def swD : Option (Nat × Bool) → D
  | none => .non
  | some (i, b) => .tup [.int i, .bl b]
def Wire.d (w : Wire) : D := .tup [w.when.d, swD w.sw, w.act.d]
structure Board where
  nc : Nat
  ns : Nat
  ws : List Wire
def Board.d (b : Board) : D := .tup [.int b.nc, .int b.ns, .tup (b.ws.map Wire.d)]
def Src.ok (nc : Nat) (w : When) : Src → Prop
  | .c i => i < nc
  | _ => w.cardy = true
def Act.ok (nc ns : Nat) (w : When) : Act → Prop
  | .add _ s i => s.ok nc w ∧ i < nc
  | .clear i => i < nc
  | .set i _ => i < ns
  | .print ss => 1 ≤ ss.length ∧ ss.length ≤ 3 ∧ ∀ s ∈ ss, s.ok nc w
def Wire.ok (nc ns : Nat) (w : Wire) : Prop := (∀ i b, w.sw = some (i, b) → i < ns) ∧ w.act.ok nc ns w.when
structure Board.ok (b : Board) : Prop where
  c : b.nc ≤ 3
  s : b.ns ≤ 2
  l : b.ws.length ≤ 8
  w : ∀ w ∈ b.ws, w.ok b.nc b.ns
/-! ### comprehensions -/
/-- a comprehension without a test whose items are drawn -/
theorem comp_draw {n : Nat} {tg : Tg} {keep elt : List Sl → List Mo → RM D} {δ : List Sl} {Q : D → Prop} (hk : ∀ δ μ, keep δ μ = some (.ok (.bl true), μ)) : ∀ (xs acc : List D) (μ : List Mo), Vat μ n → acc.length + xs.length ≤ sizeLine →
    (∀ x ∈ xs, ∃ δ1, tg.put x δ = some δ1 ∧ ∀ μ, Vat μ n → ∃ d μ', elt δ1 μ = some (.ok d, μ') ∧ Dn n μ μ' ∧ Q d) → ∃ ds μ', compL tg keep elt δ xs acc μ = some (.ok (.lst (acc ++ ds)), μ') ∧ Dn n μ μ' ∧ ds.length = xs.length ∧ ∀ d ∈ ds, Q d
  | [], acc, μ, v, _, _ => ⟨[], μ, by simp [compL, retR], v.dn, rfl, by simp⟩
  | x :: xs, acc, μ, v, hz, h => by
    obtain ⟨δ1, p1, he⟩ := h x List.mem_cons_self
    obtain ⟨d, μ1, e1, d1, q1⟩ := he μ v
    obtain ⟨ds, μ2, e2, d2, hl, hq⟩ := comp_draw hk xs (acc ++ [d]) μ1 d1.vat (by simp at hz ⊢; omega) fun y hy => h y (List.mem_cons_of_mem _ hy)
    have hz2 : acc.length < sizeLine := by simp at hz; omega
    refine ⟨d :: ds, μ2, ?_, d1.trans d2, by simp [hl], fun y hy => ?_⟩
    · simp only [compL, p1, Option.bind_some, hk, noE, e1, if_pos hz2, e2]
      simp
    · rcases List.mem_cons.mp hy with rfl | hy
      · exact q1
      · exact hq y hy
theorem in_when {μ : List Mo} (w : When) : Op.do .in_ μ w.d (.lst [.str "card", .str "hole", .str "plain"]) = some (.bl w.cardy) := by
  cases w <;> kernel_rfl
theorem rg_src {nc : Nat} {w : When} : ∀ x ∈ rgD 0 nc, ∃ s : Src, x = s.d ∧ s.ok nc w := by
  intro x hx
  unfold rgD at hx
  obtain ⟨i, hi, rfl⟩ := List.mem_map.mp hx
  rw [List.mem_range] at hi
  exact ⟨.c i, by simp [Src.d], by show i < nc; omega⟩
/-- the sources that there are -/
def srcL (nc : Nat) (w : When) : List D := rgD 0 nc ++ if w.cardy = true then [.str "x", .str "y", .str "x"] else []
theorem srcL_ok {nc : Nat} {w : When} : ∀ x ∈ srcL nc w, ∃ s : Src, x = s.d ∧ s.ok nc w := by
  intro x hx
  unfold srcL at hx
  rcases List.mem_append.mp hx with hx | hx
  · exact rg_src x hx
  · split at hx
    · rename_i hc
      simp at hx
      rcases hx with rfl | rfl | rfl
      · exact ⟨.x, rfl, hc⟩
      · exact ⟨.y, rfl, hc⟩
      · exact ⟨.x, rfl, hc⟩
    · simp at hx
theorem srcL_len {nc : Nat} {w : When} (h : nc ≤ 3) : (srcL nc w).length ≤ 6 := by
  unfold srcL rgD
  simp
  split <;> simp <;> omega
theorem ok_str (x : Str) (n : Nat) (h : PyData.strOk x = true) : okN n (.str x) = true := by cases n <;> simpa [okN] using h
theorem ok_src (n : Nat) (s : Src) : okN n s.d = true := by
  cases s with
  | x => exact ok_str _ _ (by decide +kernel)
  | y => exact ok_str _ _ (by decide +kernel)
  | c i => cases n <;> rfl
theorem ok_srcL {nc : Nat} {w : When} {n : Nat} : okNs n (srcL nc w) = true := okNs_all fun x hx => by
  obtain ⟨s, rfl, _⟩ := srcL_ok x hx
  exact ok_src n s
theorem srcs_of {nc : Nat} {w : When} : ∀ {ds : List D}, (∀ d ∈ ds, ∃ s : Src, d = s.d ∧ s.ok nc w) → ∃ ss : List Src, ds = ss.map Src.d ∧ ∀ s ∈ ss, s.ok nc w
  | [], _ => ⟨[], rfl, by simp⟩
  | d :: ds, h => by
    obtain ⟨s, rfl, hs⟩ := h d List.mem_cons_self
    obtain ⟨ss, rfl, hss⟩ := srcs_of fun d hd => h d (List.mem_cons_of_mem _ hd)
    exact ⟨s :: ss, rfl, fun t ht => (List.mem_cons.mp ht).elim (fun e => e ▸ hs) (hss t)⟩
def dropS : Nat → Ss → Ss
  | 0, s => s
  | n + 1, .cons _ s => dropS n s
  | _ + 1, .nil => .nil
/-- an action, or none -/
def ActQ (nc ns : Nat) (w : When) (d : D) : Prop := d = .tup [] ∨ ∃ a : Act, d = a.d ∧ a.ok nc ns w
/-- what is returned is drawn from n and so -/
def Gives (n : Nat) (μ : List Mo) (Q : D → Prop) (r : RM D) : Prop := ∃ d μ', r = some (.ok d, μ') ∧ Dn n μ μ' ∧ Q d
theorem Gives.of {n : Nat} {μ μ1 : List Mo} {Q : D → Prop} {r : RM D} (h : Gives n μ1 Q r) (d : Dn n μ μ1) : Gives n μ Q r := by
  obtain ⟨x, μ', e, d', q⟩ := h
  exact ⟨x, μ', e, d.trans d', q⟩
section
variable {n nc ns : Nat} {μ : List Mo} {w : When} {S : List D} {way : Int}
/-- the names in _law_act -/
def actE (n nc ns : Nat) (w : When) (S : List D) (way : Int) : List Sl := [.d (.obj n), .d (.tup [.int nc, .int ns]), .d w.d, .d (.int nc), .d (.int ns), .d (.lst S), .d (.int way), .un, .un, .un]
theorem act7 (v : Vat μ n) (nS : S ≠ []) (lS : S.length ≤ 6) (mS : ∀ x ∈ S, ∃ s : Src, x = s.d ∧ s.ok nc w) : Gives n μ (ActQ nc ns w) (fin (exs (dropS 7 B__law_act) (actE n nc ns w S way) μ)) := by
  obtain ⟨m, hm, μ2, e2, d2⟩ := some_spec (xs := [.int 1, .int 1, .int 2, .int 3]) v (by simp) (by simp)
  have hm : m = .int 1 ∨ m = .int 2 ∨ m = .int 3 := by simpa using hm
  obtain ⟨k, hk, k1, k3⟩ : ∃ k : Nat, m = .int k ∧ 1 ≤ k ∧ k ≤ 3 := by
    rcases hm with rfl | rfl | rfl
    · exact ⟨1, rfl, by omega, by omega⟩
    · exact ⟨2, rfl, by omega, by omega⟩
    · exact ⟨3, rfl, by omega, by omega⟩
  subst hk
  have hrk : rgOk 0 (k : Int) = true := by unfold rgOk; simp; omega
  have lrk : (rgD 0 (k : Int)).length = k := by unfold rgD; simp
  obtain ⟨ds, μ3, e3, d3, l3, q3⟩ := comp_draw (n := n) (tg := .name 9) (keep := ev (.con (.bl true))) (elt := ev (.call F_law_some (.cons (.var 0) (.cons (.var 5) .nil)))) (δ := [.d (.obj n), .d (.tup [.int nc, .int ns]), .d w.d, .d (.int nc), .d (.int ns), .d (.lst S), .d (.int way), .un, .d (.int k), .un]) (Q := fun d => ∃ s : Src, d = s.d ∧ s.ok nc w) (fun δ μ => by simp) (rgD 0 k) [] μ2 d2.vat (by rw [lrk, szL]; show 0 + k ≤ _; omega) (fun x hx => ⟨_, rfl, fun μ v => by
    obtain ⟨d, hd, μ', e, dn⟩ := some_spec (xs := S) v nS (by omega)
    exact ⟨d, μ', by simp [e], dn, mS d hd⟩⟩)
  obtain ⟨ss, rfl, hss⟩ := srcs_of q3
  have hk : ss.length = k := by rw [← lrk, ← l3]; simp
  have ht : (Bi.tuple).do μ3 [.lst (ss.map Src.d)] = some (.tup (ss.map Src.d)) := by simp
  refine ⟨.tup [.str "print", .tup (ss.map Src.d)], μ3, ?_, d2.trans d3, .inr ⟨.print ss, rfl, by omega, by omega, hss⟩⟩
  rw [List.nil_append] at e3
  simp [actE, dropS, B__law_act, szL, e2, hrk, kcomp, wipeS, e3]
theorem act6 (v : Vat μ n) (okS : okNs 63 S = true) (lS : S.length ≤ 6) (mS : ∀ x ∈ S, ∃ s : Src, x = s.d ∧ s.ok nc w) : Gives n μ (ActQ nc ns w) (fin (exs (dropS 6 B__law_act) (actE n nc ns w S way) μ)) := by
  by_cases nS : S = []
  · subst nS
    exact ⟨.tup [], μ, by simp [actE, dropS, B__law_act, szL, eq_lnil (μ := μ) (xs := []) rfl], v.dn, .inl rfl⟩
  · have nSe : S.isEmpty = false := by cases S <;> simp at nS ⊢
    have e : exs (dropS 6 B__law_act) (actE n nc ns w S way) μ = exs (dropS 7 B__law_act) (actE n nc ns w S way) μ := by
      simp [actE, dropS, B__law_act, szL, eq_lnil okS, nSe]
    rw [e]
    exact act7 v nS lS mS
theorem act5 (hs : ns ≤ 2) (v : Vat μ n) (okS : okNs 63 S = true) (lS : S.length ≤ 6) (mS : ∀ x ∈ S, ∃ s : Src, x = s.d ∧ s.ok nc w) : Gives n μ (ActQ nc ns w) (fin (exs (dropS 5 B__law_act) (actE n nc ns w S way) μ)) := by
  by_cases h6 : 0 < ns ∧ way < 7
  · have hs' : (0 : Int) < ns := by omega
    obtain ⟨i, μ2, e2, d2, i0, i1⟩ := under_spec (m := (ns : Int)) v hs' (by omega)
    obtain ⟨k, μ3, e3, d3, _, _⟩ := under_spec (m := 3) d2.vat (by decide) (by decide)
    have ei : (i.toNat : Int) = i := by omega
    exact ⟨.tup [.str "set", .int i, .bl (decide (0 < k))], μ3, by simp [actE, dropS, B__law_act, h6.1, h6.2, e2, e3, szL], d2.trans d3, .inr ⟨.set i.toNat (decide (0 < k)), by simp [Act.d, ei], by show _ < ns; omega⟩⟩
  · have e : exs (dropS 5 B__law_act) (actE n nc ns w S way) μ = exs (dropS 6 B__law_act) (actE n nc ns w S way) μ := by
      by_cases hn : 0 < ns
      · have h7 : ¬ way < 7 := fun z => h6 ⟨hn, z⟩
        simp [actE, dropS, B__law_act, hn, h7]
      · simp [actE, dropS, B__law_act, hn]
    rw [e]
    exact act6 v okS lS mS
theorem act4 (hc : nc ≤ 3) (hs : ns ≤ 2) (v : Vat μ n) (okS : okNs 63 S = true) (lS : S.length ≤ 6) (mS : ∀ x ∈ S, ∃ s : Src, x = s.d ∧ s.ok nc w) : Gives n μ (ActQ nc ns w) (fin (exs (dropS 4 B__law_act) (actE n nc ns w S way) μ)) := by
  by_cases h6 : 0 < nc ∧ way = 4
  · have hn' : (0 : Int) < nc := by omega
    obtain ⟨i, μ2, e2, d2, i0, i1⟩ := under_spec (m := (nc : Int)) v hn' (by omega)
    have ei : (i.toNat : Int) = i := by omega
    exact ⟨.tup [.str "clear", .int i], μ2, by simp [actE, dropS, B__law_act, h6.1, h6.2, e2, szL], d2, .inr ⟨.clear i.toNat, by simp [Act.d, ei], by show _ < nc; omega⟩⟩
  · have e : exs (dropS 4 B__law_act) (actE n nc ns w S way) μ = exs (dropS 5 B__law_act) (actE n nc ns w S way) μ := by
      by_cases hn : 0 < nc
      · have h7 : ¬ way = 4 := fun z => h6 ⟨hn, z⟩
        simp [actE, dropS, B__law_act, hn, h7]
      · simp [actE, dropS, B__law_act, hn]
    rw [e]
    exact act5 hs v okS lS mS
theorem act3 (hc : nc ≤ 3) (hs : ns ≤ 2) (v : Vat μ n) (hS : srcL nc w = S) (okS : okNs 63 S = true) (lS : S.length ≤ 6) (mS : ∀ x ∈ S, ∃ s : Src, x = s.d ∧ s.ok nc w) : Gives n μ (ActQ nc ns w) (fin (exs (dropS 3 B__law_act) (actE n nc ns w S way) μ)) := by
  by_cases h6 : 0 < nc ∧ way < 4
  · have hn' : (0 : Int) < nc := by omega
    have nS : S ≠ [] := by rw [← hS]; unfold srcL rgD; simp; omega
    obtain ⟨wd, hw, μ2, e2, d2⟩ := some_spec (xs := [.str "add", .str "add", .str "less"]) v (by simp) (by simp)
    obtain ⟨sc, hsc, μ3, e3, d3⟩ := some_spec (xs := S) d2.vat nS (by omega)
    obtain ⟨i, μ4, e4, d4, i0, i1⟩ := under_spec (m := (nc : Int)) d3.vat hn' (by omega)
    obtain ⟨s, rfl, hs2⟩ := mS sc hsc
    refine ⟨.tup [wd, s.d, .int i], μ4, by simp [actE, dropS, B__law_act, h6.1, h6.2, e2, e3, e4, szL], (d2.trans d3).trans d4, .inr ?_⟩
    have ei : (i.toNat : Int) = i := by omega
    have hw : wd = .str "add" ∨ wd = .str "less" := by simpa using hw
    rcases hw with rfl | rfl
    · exact ⟨.add false s i.toNat, by simp [Act.d, ei], hs2, by omega⟩
    · exact ⟨.add true s i.toNat, by simp [Act.d, ei], hs2, by omega⟩
  · have e : exs (dropS 3 B__law_act) (actE n nc ns w S way) μ = exs (dropS 4 B__law_act) (actE n nc ns w S way) μ := by
      by_cases hn : 0 < nc
      · have h7 : ¬ way < 4 := fun z => h6 ⟨hn, z⟩
        simp [actE, dropS, B__law_act, hn, h7]
      · simp [actE, dropS, B__law_act, hn]
    rw [e]
    exact act4 hc hs v okS lS mS
theorem act_spec (v : Vat μ n) (hc : nc ≤ 3) (hs : ns ≤ 2) : Gives n μ (ActQ nc ns w) (F_law_act [.obj n, .tup [.int nc, .int ns], w.d] μ) := by
  obtain ⟨way, μ1, e1, d1, w0, w1⟩ := under_spec (m := 9) v (by decide) (by decide)
  have hrg : (nc : Int) ≤ 16777216 := by omega
  have hs3 : ((rgD 0 nc).length + 3 ≤ 16777216) := by unfold rgD; simp; omega
  obtain ⟨S, hS⟩ : ∃ S, srcL nc w = S := ⟨_, rfl⟩
  have pre : F_law_act [.obj n, .tup [.int nc, .int ns], w.d] μ = fin (exs (dropS 3 B__law_act) (actE n nc ns w S way) μ1) := by
    cases hcd : w.cardy with
    | true =>
      have hS1 : rgD 0 nc ++ [.str "x", .str "y", .str "x"] = S := by rw [← hS]; unfold srcL; rw [if_pos hcd]
      simp [F_law_act, B__law_act, go, hrg, e1, in_when, hcd, hs3, szL, hS1]
      simp [actE, dropS]
    | false =>
      have hS0 : rgD 0 nc = S := by rw [← hS]; unfold srcL; rw [hcd]; simp
      simp [F_law_act, B__law_act, go, hrg, e1, in_when, hcd, szL]
      rw [hS0]
      simp [actE, dropS]
  rw [pre]
  exact (act3 hc hs d1.vat hS (by rw [← hS]; exact ok_srcL) (by rw [← hS]; exact srcL_len hc) (by rw [← hS]; exact srcL_ok)).of d1
end
end Dr
set_option Elab.async false
set_option linter.all false
set_option maxRecDepth 100000
set_option maxHeartbeats 4000000
/-! Drc: wires, boards, sources, decks that the laws draw. -/
namespace Dr
open PySem L2 Mi Pg Ev
theorem ok_int (n : Nat) (i : Int) : okN n (.int i) = true := by cases n <;> rfl
theorem ok_bl (n : Nat) (b : Bool) : okN n (.bl b) = true := by cases n <;> rfl
theorem ok_srcs (n : Nat) (ss : List Src) : okNs n (ss.map Src.d) = true := okNs_all fun x hx => by
  obtain ⟨s, _, rfl⟩ := List.mem_map.mp hx
  exact ok_src n s
theorem ok_act (n : Nat) (a : Act) : okN (n + 2) a.d = true := by
  cases a with
  | add l s i => cases l <;> simp [Act.d, okN, okNs, ok_src, ok_int] <;> decide +kernel
  | clear i => simp [Act.d, okN, okNs, ok_int]; decide +kernel
  | set i b => simp [Act.d, okN, okNs, ok_int, ok_bl]; decide +kernel
  | print ss => simp [Act.d, okN, okNs, ok_srcs]; decide +kernel
theorem ok_when (n : Nat) (w : When) : okN n w.d = true := by cases w <;> exact ok_str _ _ (by decide +kernel)
theorem ok_sw (n : Nat) (s : Option (Nat × Bool)) : okN (n + 1) (swD s) = true := by
  rcases s with _ | ⟨i, b⟩
  · rfl
  · simp [swD, okN, okNs, ok_int, ok_bl]
theorem ok_wire (n : Nat) (w : Wire) : okN (n + 3) w.d = true := by
  simp [Wire.d, okN, okNs, ok_when, ok_act n]
  exact ok_sw (n + 1) w.sw
theorem Act.ne (a : Act) : ∃ x xs, a.d = .tup (x :: xs) := by cases a <;> exact ⟨_, _, rfl⟩
/-- a wire, or none -/
def WireQ (nc ns : Nat) (d : D) : Prop := d = .tup [] ∨ ∃ a : Wire, d = a.d ∧ a.ok nc ns
theorem whens : ∀ x ∈ [D.str "card", .str "card", .str "hole", .str "plain", .str "minor", .str "minor", .str "major"], ∃ w : When, x = w.d := by
  intro x hx
  simp at hx
  rcases hx with rfl | rfl | rfl | rfl | rfl
  · exact ⟨.card, rfl⟩
  · exact ⟨.hole, rfl⟩
  · exact ⟨.plain, rfl⟩
  · exact ⟨.minor, rfl⟩
  · exact ⟨.major, rfl⟩
section
variable {n nc ns : Nat} {μ : List Mo}
theorem wire_spec (v : Vat μ n) (hc : nc ≤ 3) (hs : ns ≤ 2) : Gives n μ (WireQ nc ns) (F_law_wire [.obj n, .tup [.int nc, .int ns]] μ) := by
  obtain ⟨w, hw, μ1, e1, d1⟩ := some_spec (xs := [D.str "card", .str "card", .str "hole", .str "plain", .str "minor", .str "minor", .str "major"]) v (by simp) (by simp)
  obtain ⟨w, rfl⟩ := whens w hw
  obtain ⟨a, μ2, e2, d2, qa⟩ := act_spec (w := w) d1.vat hc hs
  -- the end of the def
  have last : ∀ (sw : Option (Nat × Bool)) (μ3 : List Mo), Dn n μ μ3 → (∀ i b, sw = some (i, b) → i < ns) → Gives n μ (WireQ nc ns) (fin (exs (dropS 3 B__law_wire) [.d (.obj n), .d (.tup [.int nc, .int ns]), .d w.d, .d (swD sw), .d a] μ3)) := fun sw μ3 d3 hsw => by
    rcases qa with rfl | ⟨a, rfl, ha⟩
    · exact ⟨.tup [], μ3, by simp [dropS, B__law_wire, eq_tnil (xs := []) (by rfl), szL], d3, .inl rfl⟩
    · obtain ⟨x, xs, hx⟩ := a.ne
      have ho := ok_act 62 a
      have he : eqD μ3 a.d (.tup []) = some false := by
        rw [hx] at ho ⊢
        exact eq_tnil (by simpa [okN] using ho)
      exact ⟨.tup [w.d, swD sw, a.d], μ3, by simp [dropS, B__law_wire, he, szL], d3, .inr ⟨⟨w, sw, a⟩, rfl, hsw, ha⟩⟩
  by_cases hn : 0 < ns
  · obtain ⟨k, μ3, e3, d3, k0, k1⟩ := under_spec (m := 3) d2.vat (by decide) (by decide)
    by_cases hk : k = 0
    · have hs' : (0 : Int) < ns := by omega
      obtain ⟨i, μ4, e4, d4, i0, i1⟩ := under_spec (m := (ns : Int)) d3.vat hs' (by omega)
      obtain ⟨b, μ5, e5, d5, b0, b1⟩ := under_spec (m := 2) d4.vat (by decide) (by decide)
      have ei : (i.toNat : Int) = i := by omega
      have h := last (some (i.toNat, decide (b = 0))) μ5 ((((d1.trans d2).trans d3).trans d4).trans d5) (by intro i' b' h; simp at h; omega)
      have e : F_law_wire [.obj n, .tup [.int nc, .int ns]] μ = fin (exs (dropS 3 B__law_wire) [.d (.obj n), .d (.tup [.int nc, .int ns]), .d w.d, .d (swD (some (i.toNat, decide (b = 0)))), .d a] μ5) := by
        subst hk
        simp [F_law_wire, B__law_wire, go, e1, e2, hn, e3, e4, e5, szL, swD, ei, dropS]
      rw [e]
      exact h
    · have h := last none μ3 ((d1.trans d2).trans d3) (by simp)
      have e : F_law_wire [.obj n, .tup [.int nc, .int ns]] μ = fin (exs (dropS 3 B__law_wire) [.d (.obj n), .d (.tup [.int nc, .int ns]), .d w.d, .d (swD none), .d a] μ3) := by
        simp [F_law_wire, B__law_wire, go, e1, e2, hn, e3, hk, szL, swD, dropS]
      rw [e]
      exact h
  · have h := last none μ2 (d1.trans d2) (by simp)
    have e : F_law_wire [.obj n, .tup [.int nc, .int ns]] μ = fin (exs (dropS 3 B__law_wire) [.d (.obj n), .d (.tup [.int nc, .int ns]), .d w.d, .d (swD none), .d a] μ2) := by
      simp [F_law_wire, B__law_wire, go, e1, e2, hn, szL, swD, dropS]
    rw [e]
    exact h
/-- those that are wires -/
theorem keep_wires : ∀ (ds : List D) (acc : List Wire) (μ : List Mo) (δ : List Sl) (hδ : δ.length = 6), acc.length + ds.length ≤ sizeLine → (∀ d ∈ ds, WireQ nc ns d) → (∀ w ∈ acc, w.ok nc ns) →
    ∃ ws : List Wire, compL (.name 5) (ev (.op .ne (.var 5) (.tup .nil))) (ev (.var 5)) δ ds (acc.map Wire.d) μ = some (.ok (.lst (ws.map Wire.d)), μ) ∧ ws.length ≤ acc.length + ds.length ∧ ∀ w ∈ ws, w.ok nc ns
  | [], acc, μ, δ, _, _, _, ha => ⟨acc, by simp [compL, retR], by simp, ha⟩
  | d :: ds, acc, μ, δ, hδ, hz, hq, ha => by
    have h5 : (δ.set 5 (.d d))[5]? = some (.d d) := by rw [List.getElem?_set_self (by omega)]
    rcases hq d List.mem_cons_self with rfl | ⟨w, rfl, hw⟩
    · obtain ⟨ws, e, hl, ho⟩ := keep_wires ds acc μ δ hδ (by simp at hz; omega) (fun y hy => hq y (List.mem_cons_of_mem _ hy)) ha
      refine ⟨ws, ?_, by simp; omega, ho⟩
      simp [compL, h5, eq_tnil (xs := []) (by rfl), szL, noE, e]
    · obtain ⟨ws, e, hl, ho⟩ := keep_wires ds (acc ++ [w]) μ δ hδ (by simp at hz ⊢; omega) (fun y hy => hq y (List.mem_cons_of_mem _ hy)) (by
        intro y hy
        rcases List.mem_append.mp hy with hy | hy
        · exact ha y hy
        · rw [List.mem_singleton.mp hy]; exact hw)
      refine ⟨ws, ?_, by simp at hl ⊢; omega, ho⟩
      have ho := ok_wire 61 w
      have he : eqD μ w.d (.tup []) = some false := by
        unfold Wire.d at ho ⊢
        exact eq_tnil (by simpa [okN] using ho)
      have hz2 : acc.length < 16777216 := by rw [szL] at hz; simp at hz; omega
      simp at e
      simp [compL, h5, he, szL, noE, hz2, e]
/-- a board of no more wires than the law says -/
def BoardQ (k : Nat) (d : D) : Prop := ∃ b : Board, d = b.d ∧ b.nc ≤ 2 ∧ b.ns ≤ 1 ∧ b.ws.length ≤ k ∧ ∀ w ∈ b.ws, w.ok b.nc b.ns
theorem board_spec {k : Nat} (v : Vat μ n) (hk : k ≤ 1000) : Gives n μ (BoardQ k) (F_law_board [.obj n, .int k] μ) := by
  obtain ⟨c, hc, μ1, e1, d1⟩ := some_spec (xs := [.int 0, .int 1, .int 1, .int 2, .int 2]) v (by simp) (by simp)
  obtain ⟨s, hs, μ2, e2, d2⟩ := some_spec (xs := [.int 0, .int 0, .int 1]) d1.vat (by simp) (by simp)
  obtain ⟨nc, hnc, c2⟩ : ∃ nc : Nat, c = .int nc ∧ nc ≤ 2 := by
    simp at hc
    rcases hc with rfl | rfl | rfl
    · exact ⟨0, rfl, by omega⟩
    · exact ⟨1, rfl, by omega⟩
    · exact ⟨2, rfl, by omega⟩
  obtain ⟨ns, hns, s2⟩ : ∃ ns : Nat, s = .int ns ∧ ns ≤ 1 := by
    simp at hs
    rcases hs with rfl | rfl
    · exact ⟨0, rfl, by omega⟩
    · exact ⟨1, rfl, by omega⟩
  subst hnc hns
  obtain ⟨m, μ3, e3, d3, m0, m1⟩ := under_spec (m := (k : Int) + 1) d2.vat (by omega) (by omega)
  have hrk : rgOk 0 m = true := by unfold rgOk; simp; omega
  have lrk : (rgD 0 m).length = m.toNat := by unfold rgD; simp
  obtain ⟨ds, μ4, e4, d4, l4, q4⟩ := comp_draw (n := n) (tg := .name 4) (keep := ev (.con (.bl true))) (elt := ev (.call F_law_wire (.cons (.var 0) (.cons (.var 2) .nil)))) (δ := [.d (.obj n), .d (.int k), .d (.tup [.int nc, .int ns]), .un, .un, .un]) (Q := WireQ nc ns) (fun δ μ => by simp) (rgD 0 m) [] μ3 d3.vat (by rw [lrk, szL]; show 0 + _ ≤ _; omega) (fun x hx => ⟨_, rfl, fun μ v => by
    obtain ⟨d, μ', e, dn, q⟩ := wire_spec v (by omega : nc ≤ 3) (by omega : ns ≤ 2)
    exact ⟨d, μ', by simp [e], dn, q⟩⟩)
  rw [List.nil_append] at e4
  obtain ⟨ws, e5, l5, q5⟩ := keep_wires ds [] μ4 [.d (.obj n), .d (.int k), .d (.tup [.int nc, .int ns]), .d (.lst ds), .un, .un] rfl (by rw [l4, lrk, szL]; show 0 + _ ≤ _; omega) q4 (by simp)
  refine ⟨(⟨nc, ns, ws⟩ : Board).d, μ4, ?_, ((d1.trans d2).trans d3).trans d4, ⟨nc, ns, ws⟩, rfl, c2, s2, ?_, q5⟩
  · simp [F_law_board, B__law_board, go, e1, e2, e3, hrk, kcomp, wipeS, e4, szL]
    simp at e5
    simp [e5, Board.d, szL]
  · show ws.length ≤ k
    rw [l4, lrk] at l5
    simp at l5
    omega
end
end Dr
set_option Elab.async false
set_option linter.all false
set_option maxRecDepth 100000
set_option maxHeartbeats 4000000
/-! Ise: boards that are boards. -/
namespace Dr
open PySem L2 Mi Pg Ev
section
variable {μ : List Mo} {i : Int} {xs : List D} {b : Bool} {z : Str}
@[simp] theorem isi_ii : Bi.do .isi μ [.int i, .ty "int"] = some (.bl true) := nr rfl
@[simp] theorem isi_ib : Bi.do .isi μ [.int i, .ty "bool"] = some (.bl false) := nr rfl
@[simp] theorem isi_is : Bi.do .isi μ [.int i, .ty "str"] = some (.bl false) := nr rfl
@[simp] theorem isi_ss : Bi.do .isi μ [.str z, .ty "str"] = some (.bl true) := nr rfl
@[simp] theorem isi_tt : Bi.do .isi μ [.tup xs, .ty "tuple"] = some (.bl true) := nr rfl
@[simp] theorem isi_bb : Bi.do .isi μ [.bl b, .ty "bool"] = some (.bl true) := nr rfl
theorem whole_ok {a b : Int} (h1 : a ≤ i) (h2 : i ≤ b) : Fis_whole [.int i, .int a, .int b] μ = some (.ok (.bl true), μ) := by
  simp [Fis_whole, B_is_whole, go, h1, h2]
end
section
variable {μ : List Mo} {nc ns : Nat} {r : D} {w : When}
theorem in_xy : Op.do .in_ μ (.str "x") (.tup [.str "x", .str "y"]) = some (.bl true) := by kernel_rfl
theorem in_xy2 : Op.do .in_ μ (.str "y") (.tup [.str "x", .str "y"]) = some (.bl true) := by kernel_rfl
theorem nin_mm : Op.do .nin μ w.d (.tup [.str "minor", .str "major"]) = some (.bl w.cardy) := by cases w <;> kernel_rfl
theorem source_ok {s : Src} (h : s.ok nc w) : Fis_source [.tup [.int nc, .int ns, r], w.d, s.d] μ = some (.ok (.bl true), μ) := by
  cases s with
  | x =>
    have h : w.cardy = true := h
    simp [Fis_source, B_is_source, go, Src.d, in_xy, nin_mm, h, szL]
  | y =>
    have h : w.cardy = true := h
    simp [Fis_source, B_is_source, go, Src.d, in_xy2, nin_mm, h, szL]
  | c i =>
    have h : i < nc := h
    simp [Fis_source, B_is_source, go, Src.d, szL, whole_ok (μ := μ) (show (0 : Int) ≤ i by omega) (show (i : Int) ≤ nc - 1 by omega)]
theorem comp_none {tg : Tg} {keep elt : List Sl → List Mo → RM D} {δ : List Sl} : ∀ (xs : List D), (∀ x ∈ xs, ∃ δ1, tg.put x δ = some δ1 ∧ keep δ1 μ = some (.ok (.bl false), μ)) → compL tg keep elt δ xs [] μ = some (.ok (.lst []), μ)
  | [], _ => by simp [compL, retR]
  | x :: xs, h => by
    obtain ⟨δ1, p, k⟩ := h x List.mem_cons_self
    simp [compL, p, k, noE, comp_none xs fun y hy => h y (List.mem_cons_of_mem _ hy)]
theorem printing_ok {ss : List Src} (h1 : 1 ≤ ss.length) (h3 : ss.length ≤ 3) (h : ∀ s ∈ ss, s.ok nc w) : Fis_printing [.tup [.int nc, .int ns, r], w.d, .tup (ss.map Src.d)] μ = some (.ok (.bl true), μ) := by
  have k1 : decide ((1 : Int) ≤ ss.length) = true := by simp; omega
  have k3 : decide ((ss.length : Int) ≤ 3) = true := by simp; omega
  have e := comp_none (μ := μ) (tg := .name 3) (keep := ev (.not_ (.call Fis_source (.cons (.var 0) (.cons (.var 1) (.cons (.var 3) .nil)))))) (elt := ev (.var 3)) (δ := [.d (.tup [.int nc, .int ns, r]), .d w.d, .d (.tup (ss.map Src.d)), .un]) (ss.map Src.d) (fun x hx => by
    obtain ⟨s, hs, rfl⟩ := List.mem_map.mp hx
    exact ⟨_, rfl, by simp [source_ok (h s hs)]⟩)
  simp [Fis_printing, B_is_printing, go, k1, k3, kcomp, wipeS, e, szL, eq_lnil (xs := []) rfl]
theorem hd_ne {x : D} {xs : List D} (h : okN 64 (.tup (x :: xs)) = true) : eqD μ (.tup (x :: xs)) (.tup []) = some false := by
  rw [eq_tnil (by simpa [okN] using h)]; rfl
theorem in_al (l : Bool) : Op.do .in_ μ (.str (if l = true then "less" else "add")) (.tup [.str "add", .str "less"]) = some (.bl true) := by cases l <;> kernel_rfl
theorem in_cl : Op.do .in_ μ (.str "clear") (.tup [.str "add", .str "less"]) = some (.bl false) := by kernel_rfl
theorem in_se : Op.do .in_ μ (.str "set") (.tup [.str "add", .str "less"]) = some (.bl false) := by kernel_rfl
theorem in_pr : Op.do .in_ μ (.str "print") (.tup [.str "add", .str "less"]) = some (.bl false) := by kernel_rfl
theorem eq_cc : eqD μ (.str "clear") (.str "clear") = some true := by kernel_rfl
theorem eq_sc : eqD μ (.str "set") (.str "clear") = some false := by kernel_rfl
theorem eq_pc : eqD μ (.str "print") (.str "clear") = some false := by kernel_rfl
theorem eq_ss : eqD μ (.str "set") (.str "set") = some true := by kernel_rfl
theorem eq_ps : eqD μ (.str "print") (.str "set") = some false := by kernel_rfl
theorem eq_pp : eqD μ (.str "print") (.str "print") = some true := by kernel_rfl
theorem action_ok {a : Act} (h : a.ok nc ns w) : Fis_action [.tup [.int nc, .int ns, r], w.d, a.d] μ = some (.ok (.bl true), μ) := by
  have ho : okN 64 a.d = true := ok_act 62 a
  cases a with
  | add l s i =>
    obtain ⟨h1, h2⟩ : s.ok nc w ∧ i < nc := h
    simp only [Act.d] at ho
    simp [Fis_action, B_is_action, go, Act.d, hd_ne ho, in_al, szL, source_ok h1, whole_ok (μ := μ) (show (0 : Int) ≤ i by omega) (show (i : Int) ≤ nc - 1 by omega)]
  | clear i =>
    have h2 : i < nc := h
    simp only [Act.d] at ho
    simp [Fis_action, B_is_action, go, Act.d, hd_ne ho, in_cl, eq_cc, szL, whole_ok (μ := μ) (show (0 : Int) ≤ i by omega) (show (i : Int) ≤ nc - 1 by omega)]
  | set i b =>
    have h2 : i < ns := h
    simp only [Act.d] at ho
    simp [Fis_action, B_is_action, go, Act.d, hd_ne ho, in_se, eq_sc, eq_ss, szL, whole_ok (μ := μ) (show (0 : Int) ≤ i by omega) (show (i : Int) ≤ ns - 1 by omega)]
  | print ss =>
    obtain ⟨h1, h2, h3⟩ : 1 ≤ ss.length ∧ ss.length ≤ 3 ∧ ∀ s ∈ ss, s.ok nc w := h
    simp only [Act.d] at ho
    simp [Fis_action, B_is_action, go, Act.d, hd_ne ho, in_pr, eq_pc, eq_ps, eq_pp, szL, printing_ok h1 h2 h3]
theorem word_ok : Fis_word [w.d, .tup [.str "card", .str "hole", .str "plain", .str "minor", .str "major"]] μ = some (.ok (.bl true), μ) := by
  have hi : Bi.do .isi μ [w.d, .ty "str"] = some (.bl true) := by cases w <;> kernel_rfl
  have hn : Op.do .in_ μ w.d (.tup [.str "card", .str "hole", .str "plain", .str "minor", .str "major"]) = some (.bl true) := by cases w <;> kernel_rfl
  simp [Fis_word, B_is_word, go, hi, hn]
theorem wire_ok {a : Wire} (h : a.ok nc ns) : Fis_wire [.tup [.int nc, .int ns, r], a.d] μ = some (.ok (.bl true), μ) := by
  obtain ⟨w, sw, a⟩ := a
  obtain ⟨h1, h2⟩ := h
  have h2 : a.ok nc ns w := h2
  rcases sw with _ | ⟨i, b⟩
  · simp [Fis_wire, B_is_wire, go, Wire.d, swD, word_ok, action_ok h2]
  · have h1 : i < ns := h1 i b rfl
    simp [Fis_wire, B_is_wire, go, Wire.d, swD, word_ok, action_ok h2, whole_ok (μ := μ) (show (0 : Int) ≤ i by omega) (show (i : Int) ≤ ns - 1 by omega)]
theorem board_ok {b : Board} (h : b.ok) : Fis_board [b.d] μ = some (.ok (.bl true), μ) := by
  have l := h.l
  have hl : decide ((8 : Int) < b.ws.length) = false := by simp; omega
  have e := comp_none (μ := μ) (tg := .name 1) (keep := ev (.not_ (.call Fis_wire (.cons (.var 0) (.cons (.var 1) .nil))))) (elt := ev (.var 1)) (δ := [.d b.d, .un]) (b.ws.map Wire.d) (fun x hx => by
    obtain ⟨s, hs, rfl⟩ := List.mem_map.mp hx
    exact ⟨_, rfl, by simp [Board.d, wire_ok (h.w s hs)]⟩)
  simp only [Board.d] at e
  have hc := h.c
  have hs := h.s
  simp [Fis_board, B_is_board, go, Board.d, whole_ok (μ := μ) (show (0 : Int) ≤ b.nc by omega) (show (b.nc : Int) ≤ 3 by omega), whole_ok (μ := μ) (show (0 : Int) ≤ b.ns by omega) (show (b.ns : Int) ≤ 2 by omega), hl, kcomp, wipeS, e, szL, eq_lnil (xs := []) rfl]
end
end Dr
set_option Elab.async false
set_option linter.all false
set_option maxRecDepth 100000
set_option maxHeartbeats 4000000
/-! Wrt: boards written as texts. -/
namespace Dr
open PySem L2 Mi Pg Ev
/-- the signs of a number -/
def dg (i : Nat) : Str := Str.ofString (toString (i : Int))
def Src.t : Src → Str
  | .x => "x"
  | .y => "y"
  | .c i => dg i
def When.t : When → Str
  | .card => "card"
  | .hole => "hole"
  | .plain => "plain"
  | .minor => "minor"
  | .major => "major"
theorem When.d_t (w : When) : w.d = .str w.t := by cases w <;> rfl
def Act.ws : Act → List Str
  | .add l s i => [if l = true then "less" else "add", s.t, dg i]
  | .clear i => ["clear", dg i]
  | .set i b => [if b = true then "on" else "off", dg i]
  | .print ss => "print" :: ss.map Src.t
def swW : Option (Nat × Bool) → List Str
  | none => []
  | some (i, b) => [if b = true then "if" else "unless", dg i]
def Wire.ws (w : Wire) : List Str := [w.when.t] ++ swW w.sw ++ w.act.ws
def Wire.t (w : Wire) : Str := Txt.join " " w.ws
def Board.hd (b : Board) : Str := "board " ++ dg b.nc ++ " " ++ dg b.ns
def Board.ls (b : Board) : List Str := b.hd :: b.ws.map Wire.t
def Board.t (b : Board) : Str := Txt.join "\n" b.ls
/-! ### numbers and sources as texts -/
section
variable {μ : List Mo} {nc ns : Nat}
theorem str_int {i : Nat} (h : i < 2 ^ 63) : Bi.do .str μ [.int i] = some (.str (dg i)) := by
  have : i.log2 < 1920 := by
    rcases Nat.eq_zero_or_pos i with rfl | hp
    · decide
    · have := (Nat.log2_lt (by omega)).mpr h
      omega
  show (if (i : Int).natAbs.log2 < 1920 then _ else _) = _
  rw [if_pos (by simpa using this)]
  rfl
theorem str_src {s : Src} {w : When} (h : s.ok nc w) (hc : nc ≤ 3) : Bi.do .str μ [s.d] = some (.str s.t) := by
  cases s with
  | x => rfl
  | y => rfl
  | c i => exact str_int (by have h : i < nc := h; omega)
/-- a comprehension whose items are told one by one -/
theorem comp_map {α : Type} {f g : α → D} {tg : Tg} {keep elt : List Sl → List Mo → RM D} {δ : List Sl} (hk : ∀ δ μ, keep δ μ = some (.ok (.bl true), μ)) : ∀ (xs : List α) (acc : List D), acc.length + xs.length ≤ sizeLine →
    (∀ x ∈ xs, ∃ δ1, tg.put (f x) δ = some δ1 ∧ elt δ1 μ = some (.ok (g x), μ)) → compL tg keep elt δ (xs.map f) acc μ = some (.ok (.lst (acc ++ xs.map g)), μ)
  | [], acc, _, _ => by simp [compL, retR]
  | x :: xs, acc, hz, h => by
    obtain ⟨δ1, p, e⟩ := h x List.mem_cons_self
    have hz2 : acc.length < sizeLine := by simp at hz; omega
    simp [compL, p, hk, noE, e, hz2, comp_map hk xs (acc ++ [g x]) (by simp at hz ⊢; omega) fun y hy => h y (List.mem_cons_of_mem _ hy)]
theorem cut1 {α : Type} (x : α) (xs : List α) : cutL (x :: xs) (some 1) none = xs := by
  unfold cutL
  have e : HT.sIx (x :: xs).length 0 (some 1) = 1 := by
    have := HT.sIx_nat (x :: xs).length 0 1
    rw [show ((1 : Nat) : Int) = 1 from rfl] at this
    rw [this]; simp
  rw [e, HT.sIx_none]
  simp
theorem strs_map (ws : List Str) : strsOf (ws.map D.str) = some ws := by
  induction ws with
  | nil => rfl
  | cons w ws ih => simp [strsOf, ih]
theorem join_l {x : Str} {ws : List Str} (h : (ws.map (·.length)).sum + ws.length * x.length ≤ 16777216) : Bi.do .join μ [.str x, .lst (ws.map .str)] = some (.str (Txt.join x ws)) := by
  show ((strsOf (ws.map D.str)).bind fun ys => if (ys.map (·.length)).sum + ys.length * x.length ≤ 16777216 then some (D.str (Txt.join x ys)) else none) = _
  rw [strs_map, Option.bind_some, if_pos h]
/-! ### the words there are -/
/-- a word without spaces and ends of lines, not long -/
def wordly (z : Str) : Bool := !(z.cps.toList.contains 32) && (!(z.cps.toList.contains 10) && (decide (z.length ≤ 6) && PyData.strOk z))
theorem dg_wordly {i : Nat} (h : i ≤ 3) : wordly (dg i) = true := by
  have : i = 0 ∨ i = 1 ∨ i = 2 ∨ i = 3 := by omega
  rcases this with rfl | rfl | rfl | rfl <;> decide +kernel
theorem src_wordly {s : Src} {w : When} (h : s.ok nc w) (hc : nc ≤ 3) : wordly s.t = true := by
  cases s with
  | x => decide +kernel
  | y => decide +kernel
  | c i => exact dg_wordly (by have h : i < nc := h; omega)
theorem act_wordly {a : Act} {w : When} (h : a.ok nc ns w) (hc : nc ≤ 3) (hs : ns ≤ 2) : a.ws.length ≤ 4 ∧ ∀ z ∈ a.ws, wordly z = true := by
  cases a with
  | add l s i =>
    obtain ⟨h1, h2⟩ : s.ok nc w ∧ i < nc := h
    refine ⟨by simp [Act.ws], fun z hz => ?_⟩
    simp [Act.ws] at hz
    rcases hz with rfl | rfl | rfl
    · cases l <;> decide +kernel
    · exact src_wordly h1 hc
    · exact dg_wordly (by omega)
  | clear i =>
    have h2 : i < nc := h
    refine ⟨by simp [Act.ws], fun z hz => ?_⟩
    simp [Act.ws] at hz
    rcases hz with rfl | rfl
    · decide +kernel
    · exact dg_wordly (by omega)
  | set i b =>
    have h2 : i < ns := h
    refine ⟨by simp [Act.ws], fun z hz => ?_⟩
    simp [Act.ws] at hz
    rcases hz with rfl | rfl
    · cases b <;> decide +kernel
    · exact dg_wordly (by omega)
  | print ss =>
    obtain ⟨h1, h2, h3⟩ : 1 ≤ ss.length ∧ ss.length ≤ 3 ∧ ∀ s ∈ ss, s.ok nc w := h
    refine ⟨by simp [Act.ws]; omega, fun z hz => ?_⟩
    simp [Act.ws] at hz
    rcases hz with rfl | ⟨s, hs, rfl⟩
    · decide +kernel
    · exact src_wordly (h3 s hs) hc
theorem wire_wordly {a : Wire} (h : a.ok nc ns) (hc : nc ≤ 3) (hs : ns ≤ 2) : a.ws.length ≤ 7 ∧ ∀ z ∈ a.ws, wordly z = true := by
  obtain ⟨w, sw, a⟩ := a
  obtain ⟨h1, h2⟩ := h
  have h2 : a.ok nc ns w := h2
  obtain ⟨l, k⟩ := act_wordly h2 hc hs
  have hw : wordly w.t = true := by cases w <;> decide +kernel
  rcases sw with _ | ⟨i, b⟩
  · refine ⟨by simp [Wire.ws, swW]; omega, fun z hz => ?_⟩
    simp [Wire.ws, swW] at hz
    rcases hz with rfl | hz
    · exact hw
    · exact k z hz
  · have h1 : i < ns := h1 i b rfl
    refine ⟨by simp [Wire.ws, swW]; omega, fun z hz => ?_⟩
    simp [Wire.ws, swW] at hz
    rcases hz with rfl | rfl | rfl | hz
    · exact hw
    · cases b <;> decide +kernel
    · exact dg_wordly (by omega)
    · exact k z hz
theorem sum_le : ∀ {ws : List Str} {k : Nat}, (∀ z ∈ ws, z.length ≤ k) → (ws.map (·.length)).sum ≤ ws.length * k
  | [], _, _ => by simp
  | w :: ws, k, h => by
    have a := sum_le fun z hz => h z (List.mem_cons_of_mem w hz)
    have b := h w List.mem_cons_self
    simp [Nat.succ_mul]
    omega
theorem wordly_len {z : Str} (h : wordly z = true) : z.length ≤ 6 := by
  unfold wordly at h
  simp only [Bool.and_eq_true, decide_eq_true_eq] at h
  exact h.2.2.1
theorem wire_sum {a : Wire} (h : a.ok nc ns) (hc : nc ≤ 3) (hs : ns ≤ 2) : (a.ws.map (·.length)).sum + a.ws.length * 1 ≤ 49 := by
  obtain ⟨l, k⟩ := wire_wordly h hc hs
  have := sum_le fun z hz => wordly_len (k z hz)
  omega
/-! ### the words of a wire, written by the law -/
def Act.parts : Act → List Src
  | .add _ s i => [s, .c i]
  | .clear i => [.c i]
  | .set _ _ => []
  | .print ss => ss
theorem parts_str {a : Act} {w : When} (h : a.ok nc ns w) (hc : nc ≤ 3) : ∀ p ∈ a.parts, Bi.do .str μ [p.d] = some (.str p.t) := by
  cases a with
  | add l s i =>
    obtain ⟨h1, h2⟩ : s.ok nc w ∧ i < nc := h
    intro p hp
    simp [Act.parts] at hp
    rcases hp with rfl | rfl
    · exact str_src h1 hc
    · exact str_int (by omega)
  | clear i =>
    have h2 : i < nc := h
    intro p hp
    simp [Act.parts] at hp
    subst hp
    exact str_int (by omega)
  | set i b => intro p hp; simp [Act.parts] at hp
  | print ss =>
    obtain ⟨h1, h2, h3⟩ : 1 ≤ ss.length ∧ ss.length ≤ 3 ∧ ∀ s ∈ ss, s.ok nc w := h
    exact fun p hp => str_src (h3 p hp) hc
theorem parts_len {a : Act} {w : When} (h : a.ok nc ns w) : a.parts.length ≤ 3 := by
  cases a with
  | print ss => exact h.2.1
  | _ => simp [Act.parts]
theorem eq_as (l : Bool) : eqD μ (.str (if l = true then "less" else "add")) (.str "set") = some false := by cases l <;> kernel_rfl
theorem eq_ap (l : Bool) : eqD μ (.str (if l = true then "less" else "add")) (.str "print") = some false := by cases l <;> kernel_rfl
theorem eq_cs : eqD μ (.str "clear") (.str "set") = some false := by kernel_rfl
theorem eq_cp : eqD μ (.str "clear") (.str "print") = some false := by kernel_rfl
theorem comp_parts {a : Act} {w : When} (h : a.ok nc ns w) (hc : nc ≤ 3) {i : Nat} {δ : List Sl} (hi : i < δ.length) : compL (.name i) (ev (.con (.bl true))) (ev (.bi .str (.cons (.var i) .nil))) δ (a.parts.map Src.d) [] μ = some (.ok (.lst ((a.parts.map Src.t).map .str)), μ) := by
  have := comp_map (μ := μ) (f := Src.d) (g := fun s => .str s.t) (tg := .name i) (keep := ev (.con (.bl true))) (elt := ev (.bi .str (.cons (.var i) .nil))) (δ := δ) (fun δ μ => by simp) a.parts [] (by rw [szL]; have := parts_len h; simp; omega) (fun p hp => ⟨_, rfl, by
    have h5 : (δ.set i (.d p.d))[i]? = some (.d p.d) := by rw [List.getElem?_set_self hi]
    simp [h5, parts_str h hc p hp]⟩)
  rw [List.nil_append] at this
  rw [List.map_map]
  exact this
theorem Src.dc (i : Nat) : (Src.c i).d = .int i := rfl
theorem Src.tc (i : Nat) : (Src.c i).t = dg i := rfl
/-- behind the words ahead of the action -/
theorem lwords_act {a : Act} {w : When} (h : a.ok nc ns w) (hc : nc ≤ 3) (hs : ns ≤ 2) {d1 d2 d3 : D} {fw : List Str} {t : Str} (hz : fw.length ≤ 3) (hj : Bi.do .join μ [.str " ", .lst ((fw ++ a.ws).map .str)] = some (.str t)) :
    fin (exs (dropS 2 B__law_words) [.d d1, .d d2, .d d3, .d a.d, .d (.lst (fw.map .str)), .un, .un] μ) = some (.ok (.str t), μ) := by
  have hp := @comp_parts μ nc ns a w h hc
  have z1 : fw.length + 1 ≤ 16777216 := by omega
  have z2 : fw.length + 2 ≤ 16777216 := by omega
  have z3 : fw.length + 1 + 2 ≤ 16777216 := by omega
  have z4 : fw.length + 1 + 1 ≤ 16777216 := by omega
  cases a with
  | add l s i =>
    have hp := hp (i := 6) (δ := [.d d1, .d d2, .d d3, .d (Act.add l s i).d, .d (.lst (fw.map .str)), .d (.tup [s.d, .int i]), .un]) (by simp)
    simp [Act.ws] at hj
    simp [Act.parts, Act.d, Src.dc, Src.tc] at hp
    simp [dropS, B__law_words, Act.d, eq_as, eq_ap, szL, cut1, kcomp, wipeS, hp, z1, z3, hj]
  | clear i =>
    have hp := hp (i := 6) (δ := [.d d1, .d d2, .d d3, .d (Act.clear i).d, .d (.lst (fw.map .str)), .d (.tup [.int i]), .un]) (by simp)
    simp [Act.ws] at hj
    simp [Act.parts, Act.d, Src.dc, Src.tc] at hp
    simp [dropS, B__law_words, Act.d, eq_cs, eq_cp, szL, cut1, kcomp, wipeS, hp, z1, z4, hj]
  | set i b =>
    have hi : i < ns := h
    cases b <;> simp [Act.ws] at hj <;> simp [dropS, B__law_words, Act.d, eq_ss, szL, str_int (μ := μ) (show i < 2 ^ 63 by omega), z2, hj]
  | print ss =>
    obtain ⟨h1, h2, h3⟩ : 1 ≤ ss.length ∧ ss.length ≤ 3 ∧ ∀ s ∈ ss, s.ok nc w := h
    have hp := hp (i := 6) (δ := [.d d1, .d d2, .d d3, .d (Act.print ss).d, .d (.lst (fw.map .str)), .d (.tup (ss.map Src.d)), .un]) (by simp)
    have z5 : fw.length + 1 + ss.length ≤ 16777216 := by omega
    simp [Act.ws] at hj
    simp [Act.parts, Act.d] at hp
    simp [dropS, B__law_words, Act.d, eq_ps, eq_pp, szL, kcomp, wipeS, hp, z1, z5, hj]
theorem lwords_ok {a : Wire} (h : a.ok nc ns) (hc : nc ≤ 3) (hs : ns ≤ 2) : F_law_words [a.d] μ = some (.ok (.str a.t), μ) := by
  have hj : Bi.do .join μ [.str " ", .lst (a.ws.map .str)] = some (.str a.t) := join_l (x := " ") (by have := wire_sum h hc hs; show _ + _ * 1 ≤ _; omega)
  obtain ⟨w, sw, a⟩ := a
  obtain ⟨h1, h2⟩ := h
  have h2 : a.ok nc ns w := h2
  have hw := w.d_t
  rcases sw with _ | ⟨i, b⟩
  · rw [← lwords_act h2 hc hs (μ := μ) (d1 := Wire.d ⟨w, none, a⟩) (d2 := w.d) (d3 := .non) (fw := [w.t]) (by simp) hj]
    simp [F_law_words, B__law_words, go, Wire.d, swD, hw, szL]
    simp [dropS]
  · have hi : i < ns := h1 i b rfl
    have hi : i < 2 ^ 63 := by omega
    rw [← lwords_act h2 hc hs (μ := μ) (d1 := Wire.d ⟨w, some (i, b), a⟩) (d2 := w.d) (d3 := swD (some (i, b))) (fw := [w.t] ++ swW (some (i, b))) (by simp [swW]) hj]
    cases b <;> simp [F_law_words, B__law_words, go, Wire.d, swD, swW, hw, szL, str_int (μ := μ) hi] <;> simp [dropS]
end
end Dr
set_option Elab.async false
set_option linter.all false
set_option maxRecDepth 100000
set_option maxHeartbeats 4000000
/-! Mca: machines with boards, in plain terms; what the program's defs come to there. -/
namespace Mm
open PySem L2 Mi Pg Ev Dr
abbrev Key := Int × Int
def keyD (k : Key) : D := .tup [.int k.1, .int k.2]
def koD : Option Key → D
  | none => .non
  | some k => keyD k
/-- what counters count in -/
class Nm (α : Type) where
  z : α
  a : α → α → α
  n : α → α
instance : Nm Int := ⟨0, fun a b => a + b, fun a => -a⟩
@[simp] theorem nm_z : (Nm.z : Int) = 0 := rfl
@[simp] theorem nm_a (a b : Int) : Nm.a a b = a + b := rfl
@[simp] theorem nm_n (a : Int) : Nm.n a = -a := rfl
structure Card (α : Type) where
  k : Key
  h : Bool
  x : α
  y : α
def Card.d (c : Card Int) : D := .tup [.int c.k.1, .int c.k.2, .bl c.h, .int c.x, .int c.y]
/-- which wires are gone through -/
inductive Tm | card (h : Bool) | brk (m : Bool)
def Tm.has : Tm → When → Bool
  | .card _, .card => true
  | .card h, .hole => h
  | .card h, .plain => !h
  | .brk _, .minor => true
  | .brk m, .major => m
  | _, _ => false
def Tm.ws : Tm → List D
  | .card h => [.str "card", if h = true then .str "hole" else .str "plain"]
  | .brk m => if m = true then [.str "minor", .str "major"] else [.str "minor"]
def whenMaj : When → Bool
  | .major => true
  | _ => false
/-- counters and switches -/
structure St (α : Type) where
  cs : List α
  ss : List Bool
def St.c (s : St Int) : D := .tup (s.cs.map .int)
def St.s {α : Type} (s : St α) : D := .tup (s.ss.map .bl)
def St.ok {α : Type} (nc ns : Nat) (s : St α) : Prop := s.cs.length = nc ∧ s.ss.length = ns
def num {α : Type} [Nm α] (cs : List α) (x y : α) : Src → α
  | .x => x
  | .y => y
  | .c i => cs.getD i Nm.z
def stepA {α : Type} [Nm α] (x y : α) (s : St α) : Dr.Act → St α
  | .add l v i => ⟨s.cs.set i (Nm.a (s.cs.getD i Nm.z) (if l = true then Nm.n (num s.cs x y v) else num s.cs x y v)), s.ss⟩
  | .clear i => ⟨s.cs.set i Nm.z, s.ss⟩
  | .set i b => ⟨s.cs, s.ss.set i b⟩
  | .print _ => s
def swOk (ss : List Bool) : Option (Nat × Bool) → Bool
  | none => true
  | some (i, b) => ss.getD i false == b
/-- a line that is printed: items, key, by a wire with major, the wire -/
structure Pr (α : Type) where
  items : List α
  k : Key
  m : Bool
  ix : Nat
def Pr.it (p : Pr Int) : D := .tup (p.items.map .int)
def Pr.hd {α : Type} (p : Pr α) : D := .tup [.int p.k.1, .int p.k.2, .bl p.m]
def Pr.d (p : Pr Int) : D := .tup [p.it, p.hd, .int p.ix]
def Pr.e (p : Pr Int) : D := .tup [p.it, p.hd]
def isP : Dr.Act → Option (List Src)
  | .print ss => some ss
  | _ => none
def passM {α : Type} [Nm α] (tm : Tm) (k : Key) (x y : α) : Nat → List Wire → St α → St α × List (Pr α)
  | _, [], s => (s, [])
  | i, w :: ws, s => if (tm.has w.when && swOk s.ss w.sw) = true then
      match isP w.act with
      | some ss => ((passM tm k x y (i + 1) ws s).1, ⟨ss.map (num s.cs x y), k, whenMaj w.when, i⟩ :: (passM tm k x y (i + 1) ws s).2)
      | none => passM tm k x y (i + 1) ws (stepA x y s w.act)
    else passM tm k x y (i + 1) ws s
/-! ### facts on lists -/
theorem atI_map {α β : Type} (f : α → β) (d : α) {xs : List α} {i : Nat} (h : i < xs.length) : L2.atI (xs.map f) (i : Int) = some (f (xs.getD i d)) := by
  unfold L2.atI L2.ixN
  rw [if_pos (by omega), if_pos (by simp; omega), Option.bind_some]
  simp [h]
theorem cut_take {α : Type} (xs : List α) (i : Nat) : cutL xs none (some (i : Int)) = xs.take i := by
  unfold cutL
  rw [HT.sIx_none, HT.sIx_nat]
  simp
theorem cut_drop {α : Type} (xs : List α) (i : Nat) : cutL xs (some (i : Int)) none = xs.drop i := by
  unfold cutL
  rw [HT.sIx_none, HT.sIx_nat]
  rcases Nat.le_total i xs.length with h | h
  · rw [Nat.min_eq_left h, List.take_of_length_le (by simp)]
  · rw [Nat.min_eq_right h]; simp [List.drop_eq_nil_of_le h]
theorem cut2 {α : Type} (x y : α) (xs : List α) : cutL (x :: y :: xs) none (some 2) = [x, y] := by
  have := cut_take (x :: y :: xs) 2
  simpa using this
section
variable {μ : List Mo} {nc ns : Nat}
theorem eq_bl {a b : Bool} : eqD μ (.bl a) (.bl b) = some (a == b) := by
  rw [eqD_ok (by rfl) (by rfl)]
  rfl
theorem eq_str {z w : Str} (h : PyData.strOk z = true) (h2 : PyData.strOk w = true) : eqD μ (.str z) (.str w) = some (z == w) := by
  rw [eqD_ok (ok_str z 64 h) (ok_str w 64 h2)]
  rfl
theorem eq_key {a b : Key} : eqD μ (keyD a) (keyD b) = some (decide (a = b)) := by
  rw [eqD_ok (by rfl) (by rfl)]
  obtain ⟨a1, a2⟩ := a
  obtain ⟨b1, b2⟩ := b
  simp only [keyD, eqb, eqbs, Prod.mk.injEq, Bool.and_true, Bool.decide_and]
  rfl
theorem eq_xx : eqD μ (.str "x") (.str "x") = some true := by kernel_rfl
theorem eq_yx : eqD μ (.str "y") (.str "x") = some false := by kernel_rfl
theorem eq_ac (l : Bool) : eqD μ (.str (if l = true then "less" else "add")) (.str "clear") = some false := by cases l <;> kernel_rfl
theorem eq_as (l : Bool) : eqD μ (.str (if l = true then "less" else "add")) (.str "set") = some false := by cases l <;> kernel_rfl
theorem eq_ap (l : Bool) : eqD μ (.str (if l = true then "less" else "add")) (.str "print") = some false := by cases l <;> kernel_rfl
theorem eq_aa (l : Bool) : eqD μ (.str (if l = true then "less" else "add")) (.str "add") = some (!l) := by cases l <;> kernel_rfl
theorem eq_cp : eqD μ (.str "clear") (.str "print") = some false := by kernel_rfl
theorem eq_sp : eqD μ (.str "set") (.str "print") = some false := by kernel_rfl
end
end Mm
set_option Elab.async false
set_option linter.all false
set_option maxRecDepth 100000
set_option maxHeartbeats 4000000
/-! Mcb: wires gone through, cards fed, rows: by the program. -/
namespace Mm
open PySem L2 Mi Pg Ev Dr
theorem step_ok {α : Type} [Nm α] {nc ns : Nat} {s : St α} {x y : α} {a : Dr.Act} (h : s.ok nc ns) : (stepA x y s a).ok nc ns := by
  cases a <;> simpa [stepA, St.ok] using h
theorem pass_ok {α : Type} [Nm α] {nc ns : Nat} {tm : Tm} {k : Key} {x y : α} : ∀ (ws : List Wire) (i : Nat) (s : St α), s.ok nc ns → (passM tm k x y i ws s).1.ok nc ns ∧ (passM tm k x y i ws s).2.length ≤ ws.length ∧ (∀ p ∈ (passM tm k x y i ws s).2, p.k = k)
  | [], _, _, h => ⟨h, by simp [passM], by simp [passM]⟩
  | w :: ws, i, s, h => by
    unfold passM
    split
    · split
      · obtain ⟨h1, h2, h3⟩ := pass_ok (tm := tm) (k := k) (x := x) (y := y) ws (i + 1) s h
        refine ⟨h1, by simp; omega, fun p hp => ?_⟩
        rcases List.mem_cons.mp hp with rfl | hp
        · rfl
        · exact h3 p hp
      · obtain ⟨h1, h2, h3⟩ := pass_ok (tm := tm) (k := k) (x := x) (y := y) ws (i + 1) (stepA x y s w.act) (step_ok h)
        exact ⟨h1, by simp; omega, h3⟩
    · obtain ⟨h1, h2, h3⟩ := pass_ok (tm := tm) (k := k) (x := x) (y := y) ws (i + 1) s h
      exact ⟨h1, by simp; omega, h3⟩
section
variable {μ : List Mo} {nc ns : Nat}
theorem eq_maj {w : When} : eqD μ w.d (.str "major") = some (whenMaj w) := by cases w <;> kernel_rfl
end
end Mm
set_option Elab.async false
set_option linter.all false
set_option maxRecDepth 100000
set_option maxHeartbeats 4000000
/-! Mcc: cards fed, rows of boards, sheets: by the program. -/
namespace Mm
open PySem L2 Mi Pg Ev Dr
/-- the break ahead of a card: none, or whether it is a major one -/
def lvl : Option Key → Key → Option Bool
  | none, _ => none
  | some a, b => if a = b then none else some (decide (a.1 ≠ b.1))
structure Sd (α : Type) where
  s : St α
  k : Option Key
def Sd.d (t : Sd Int) : D := .tup [t.s.c, t.s.s, koD t.k]
section
variable {α : Type} [Nm α]
def brkM (b : Board) (t : Sd α) (k : Key) : St α × List (Pr α) := match lvl t.k k with
  | none => (t.s, [])
  | some m => passM (.brk m) (t.k.getD (0, 0)) Nm.z Nm.z 0 b.ws t.s
def feedM (b : Board) (t : Sd α) (c : Card α) : Sd α × List (Pr α) :=
  (⟨(passM (.card c.h) c.k c.x c.y 0 b.ws (brkM b t c.k).1).1, some c.k⟩, (brkM b t c.k).2 ++ (passM (.card c.h) c.k c.x c.y 0 b.ws (brkM b t c.k).1).2)
def finM (b : Board) (t : Sd α) : Sd α × List (Pr α) := match t.k with
  | none => (t, [])
  | some k => (⟨(passM (.brk true) k Nm.z Nm.z 0 b.ws t.s).1, none⟩, (passM (.brk true) k Nm.z Nm.z 0 b.ws t.s).2)
def fedM (b : Board) : Sd α → List (Card α) → Sd α × List (Pr α)
  | t, [] => (t, [])
  | t, c :: cs => ((fedM b (feedM b t c).1 cs).1, (feedM b t c).2 ++ (fedM b (feedM b t c).1 cs).2)
def cardOf (p : Pr α) : Option (Card α) := match p.items with
  | [x, y] => some ⟨p.k, p.m, x, y⟩
  | _ => none
def cardsM (ps : List (Pr α)) : List (Card α) := ps.filterMap cardOf
def begM (b : Board) : Sd α := ⟨⟨List.replicate b.nc Nm.z, List.replicate b.ns false⟩, none⟩
inductive Row | one (a : Board) | two (a b : Board)
def feedR (r : Row) (t : Sd α × Sd α) (c : Card α) : (Sd α × Sd α) × List (Pr α) := match r with
  | .one a => (((feedM a t.1 c).1, t.2), (feedM a t.1 c).2)
  | .two a b => (((feedM a t.1 c).1, (fedM b t.2 (cardsM (feedM a t.1 c).2)).1), (fedM b t.2 (cardsM (feedM a t.1 c).2)).2)
def endR (r : Row) (t : Sd α × Sd α) : List (Pr α) := match r with
  | .one a => (finM a t.1).2
  | .two a b => (fedM b t.2 (cardsM (finM a t.1).2)).2 ++ (finM b (fedM b t.2 (cardsM (finM a t.1).2)).1).2
def begR : Row → Sd α × Sd α
  | .one a => (begM a, begM a)
  | .two a b => (begM a, begM b)
def fedR (r : Row) : Sd α × Sd α → List (Card α) → (Sd α × Sd α) × List (Pr α)
  | t, [] => (t, [])
  | t, c :: cs => ((fedR r (feedR r t c).1 cs).1, (feedR r t c).2 ++ (fedR r (feedR r t c).1 cs).2)
def allR (r : Row) (cs : List (Card α)) : List (Pr α) := (fedR r (begR r) cs).2 ++ endR r (fedR r (begR r) cs).1
def sheetR (r : Row) (cs : List (Card α)) : List (List α) := (allR r cs).map Pr.items
end
def Row.d : Row → D
  | .one a => .tup [a.d]
  | .two a b => .tup [a.d, b.d]
def lnD (l : List Int) : D := .tup (l.map .int)
def Sd.ok {α : Type} (b : Board) (t : Sd α) : Prop := t.s.ok b.nc b.ns
/-! ### lengths and forms -/
section
variable {α : Type} [Nm α] {b : Board}
theorem brk_ok {t : Sd α} {k : Key} (hb : b.ok) (h : t.ok b) : (brkM b t k).1.ok b.nc b.ns ∧ (brkM b t k).2.length ≤ 8 := by
  unfold brkM
  split
  · exact ⟨h, by simp⟩
  · obtain ⟨h1, h2, _⟩ := pass_ok (tm := .brk _) (k := t.k.getD (0, 0)) (x := Nm.z) (y := Nm.z) b.ws 0 t.s h
    exact ⟨h1, Nat.le_trans h2 hb.l⟩
theorem feed_okM {t : Sd α} {c : Card α} (hb : b.ok) (h : t.ok b) : (feedM b t c).1.ok b ∧ (feedM b t c).2.length ≤ 16 := by
  obtain ⟨h1, h2⟩ := brk_ok (k := c.k) hb h
  obtain ⟨h3, h4, _⟩ := pass_ok (tm := .card c.h) (k := c.k) (x := c.x) (y := c.y) b.ws 0 _ h1
  have := hb.l
  exact ⟨h3, by simp [feedM]; omega⟩
theorem fin_okM {t : Sd α} (hb : b.ok) (h : t.ok b) : (finM b t).1.ok b ∧ (finM b t).2.length ≤ 8 := by
  unfold finM
  split
  · exact ⟨h, by simp⟩
  · rename_i k _
    obtain ⟨h1, h2, _⟩ := pass_ok (tm := .brk true) (k := k) (x := Nm.z) (y := Nm.z) b.ws 0 t.s h
    exact ⟨h1, Nat.le_trans h2 hb.l⟩
theorem fed_okM (hb : b.ok) : ∀ (cs : List (Card α)) (t : Sd α), t.ok b → (fedM b t cs).1.ok b ∧ (fedM b t cs).2.length ≤ 16 * cs.length
  | [], t, h => ⟨h, by simp [fedM]⟩
  | c :: cs, t, h => by
    obtain ⟨h1, h2⟩ := feed_okM (c := c) hb h
    obtain ⟨h3, h4⟩ := fed_okM hb cs (feedM b t c).1 h1
    exact ⟨h3, by simp [fedM]; omega⟩
theorem cards_len (ps : List (Pr α)) : (cardsM ps).length ≤ ps.length := List.length_filterMap_le _ _
theorem beg_okM : (begM b : Sd α).ok b := by simp [begM, Sd.ok, St.ok]
def Row.ok : Row → Prop
  | .one a => a.ok
  | .two a b => a.ok ∧ b.ok ∧ a.ws.length + b.ws.length ≤ 8
def stOk : Row → Sd α × Sd α → Prop
  | .one a, t => t.1.ok a
  | .two a b, t => t.1.ok a ∧ t.2.ok b
theorem feedR_ok {r : Row} (hr : r.ok) {t : Sd α × Sd α} {c : Card α} (h : stOk r t) : stOk r (feedR r t c).1 ∧ (feedR r t c).2.length ≤ 256 := by
  cases r with
  | one a =>
    obtain ⟨h1, h2⟩ := feed_okM (c := c) (b := a) hr h
    exact ⟨h1, by simp [feedR]; omega⟩
  | two a b =>
    obtain ⟨ha, hb, _⟩ := hr
    obtain ⟨h1, h2⟩ := feed_okM (c := c) ha h.1
    obtain ⟨h3, h4⟩ := fed_okM hb (cardsM (feedM a t.1 c).2) t.2 h.2
    have := cards_len (feedM a t.1 c).2
    exact ⟨⟨h1, h3⟩, by simp [feedR]; omega⟩
theorem endR_len {r : Row} (hr : r.ok) {t : Sd α × Sd α} (h : stOk r t) : (endR r t).length ≤ 256 := by
  cases r with
  | one a =>
    obtain ⟨h1, h2⟩ := fin_okM (b := a) hr h
    simp [endR]; omega
  | two a b =>
    obtain ⟨ha, hb, _⟩ := hr
    obtain ⟨h1, h2⟩ := fin_okM ha h.1
    obtain ⟨h3, h4⟩ := fed_okM hb (cardsM (finM a t.1).2) t.2 h.2
    obtain ⟨h5, h6⟩ := fin_okM hb h3
    have := cards_len (finM a t.1).2
    simp [endR]; omega
theorem begR_ok {r : Row} : stOk r (begR r : Sd α × Sd α) := by
  cases r with
  | one a => exact beg_okM
  | two a b => exact ⟨beg_okM, beg_okM⟩
theorem fedR_ok {r : Row} (hr : r.ok) : ∀ (cs : List (Card α)) (t : Sd α × Sd α), stOk r t → stOk r (fedR r t cs).1 ∧ (fedR r t cs).2.length ≤ 256 * cs.length
  | [], t, h => ⟨h, by simp [fedR]⟩
  | c :: cs, t, h => by
    obtain ⟨h1, h2⟩ := feedR_ok hr (c := c) h
    obtain ⟨h3, h4⟩ := fedR_ok hr cs (feedR r t c).1 h1
    exact ⟨h3, by simp [fedR]; omega⟩
end
/-! ### the program -/
section
variable {μ : List Mo} {b : Board}
theorem isn_key {k : Key} : isD (keyD k) .non = some false := rfl
theorem sl_key {k : Key} {h : Bool} {x y : Int} : slD μ (Card.d ⟨k, h, x, y⟩) none (some 2) = some (keyD k) := by simp [Card.d, cut2, keyD]
end
end Mm
set_option Elab.async false
set_option linter.all false
set_option maxRecDepth 100000
set_option maxHeartbeats 4000000
/-! Mcd: rows of boards, sheets: by the program. -/
namespace Mm
open PySem L2 Mi Pg Ev Dr
section
variable {μ : List Mo} {b : Board} {r : Row}
theorem ixb0 : ixD μ b.d (.int 0) = some (.int b.nc) := by simp [Board.d]
theorem ixb1 : ixD μ b.d (.int 1) = some (.int b.ns) := by simp [Board.d]
theorem all_len (hr : r.ok) (cs : List (Card Int)) : (allR r cs).length ≤ 256 * cs.length + 256 := by
  obtain ⟨h1, h2⟩ := fedR_ok hr cs (begR r : Sd Int × Sd Int) begR_ok
  have h3 := endR_len hr h1
  simp [allR]; omega
end
end Mm
set_option Elab.async false
set_option linter.all false
set_option maxRecDepth 100000
set_option maxHeartbeats 4000000
/-! Mce: the laws' own machine: a dict with lists that change. -/
namespace Mm
open PySem L2 Mi Pg Ev Dr
/-- a machine of the law at n (counters), n + 1 (switches), n + 2 (the dict) -/
structure Hn (n : Nat) (b : Board) (t : Sd Int) (μ : List Mo) : Prop where
  d : μ[n + 2]? = some (.dct [("board", b.d), ("counters", .obj n), ("switches", .obj (n + 1)), ("key", koD t.k)])
  c : μ[n]? = some (.lst (t.s.cs.map .int))
  s : μ[n + 1]? = some (.lst (t.s.ss.map .bl))
/-- only these three are otherwise -/
structure Ch (n : Nat) (μ μ' : List Mo) : Prop where
  len : μ'.length = μ.length
  oth : ∀ m, (m < n ∨ n + 3 ≤ m) → μ'[m]? = μ[m]?
theorem Ch.refl {n : Nat} {μ : List Mo} : Ch n μ μ := ⟨rfl, fun _ _ => rfl⟩
theorem Ch.trans {n : Nat} {μ μ1 μ2 : List Mo} (a : Ch n μ μ1) (b : Ch n μ1 μ2) : Ch n μ μ2 := ⟨b.len.trans a.len, fun m h => (b.oth m h).trans (a.oth m h)⟩
theorem Ch.set {n k : Nat} {μ : List Mo} {o : Mo} (h : n ≤ k) (h2 : k < n + 3) : Ch n μ (μ.set k o) := ⟨by simp, fun m hm => by rw [List.getElem?_set_ne (by omega)]⟩
section
variable {μ : List Mo} {n : Nat} {b : Board} {t : Sd Int}
theorem lk_b {a c s k : D} : List.lookup ("board" : Str) [("board", a), ("counters", c), ("switches", s), ("key", k)] = some a := by kernel_rfl
theorem lk_c {a c s k : D} : List.lookup ("counters" : Str) [("board", a), ("counters", c), ("switches", s), ("key", k)] = some c := by kernel_rfl
theorem lk_s {a c s k : D} : List.lookup ("switches" : Str) [("board", a), ("counters", c), ("switches", s), ("key", k)] = some s := by kernel_rfl
theorem lk_k {a c s k : D} : List.lookup ("key" : Str) [("board", a), ("counters", c), ("switches", s), ("key", k)] = some k := by kernel_rfl
theorem pt_k {a c s k v : D} : putS [("board", a), ("counters", c), ("switches", s), ("key", k)] "key" v = [(("board" : Str), a), (("counters" : Str), c), (("switches" : Str), s), (("key" : Str), v)] := by kernel_rfl
theorem Hn.board (h : Hn n b t μ) : ixD μ (.obj (n + 2)) (.str "board") = some b.d := by simp only [ixD, see, h.d, lk_b]
theorem Hn.cnt (h : Hn n b t μ) : ixD μ (.obj (n + 2)) (.str "counters") = some (.obj n) := by simp only [ixD, see, h.d, lk_c]
theorem Hn.swi (h : Hn n b t μ) : ixD μ (.obj (n + 2)) (.str "switches") = some (.obj (n + 1)) := by simp only [ixD, see, h.d, lk_s]
theorem Hn.key (h : Hn n b t μ) : ixD μ (.obj (n + 2)) (.str "key") = some (koD t.k) := by simp only [ixD, see, h.d, lk_k]
theorem Hn.ci (h : Hn n b t μ) {i : Nat} (hi : i < t.s.cs.length) : ixD μ (.obj n) (.int i) = some (.int (t.s.cs.getD i 0)) := by rw [ix_o h.c, atI_map D.int 0 hi]
theorem Hn.si (h : Hn n b t μ) {i : Nat} (hi : i < t.s.ss.length) : ixD μ (.obj (n + 1)) (.int i) = some (.bl (t.s.ss.getD i false)) := by rw [ix_o h.s, atI_map D.bl false hi]
theorem put_l {m i : Nat} {xs : List D} {v : D} (h : μ[m]? = some (.lst xs)) (hi : i < xs.length) : putD μ (.obj m) (.int i) v = some (μ.set m (.lst (xs.set i v))) := by
  simp only [putD, h]
  unfold L2.ixN
  rw [if_pos (by omega), if_pos (by omega)]
  rfl
theorem lt_of {m : Nat} {o : Mo} (h : μ[m]? = some o) : m < μ.length := (List.getElem?_eq_some_iff.mp h).1
theorem Hn.pc (h : Hn n b t μ) {i : Nat} {v : Int} (hi : i < t.s.cs.length) : ∃ μ', putD μ (.obj n) (.int i) (.int v) = some μ' ∧ Hn n b ⟨⟨t.s.cs.set i v, t.s.ss⟩, t.k⟩ μ' ∧ Ch n μ μ' := by
  refine ⟨_, put_l h.c (by simpa using hi), ⟨?_, ?_, ?_⟩, .set (by omega) (by omega)⟩
  · rw [List.getElem?_set_ne (by omega)]; exact h.d
  · rw [List.getElem?_set_self (lt_of h.c)]; simp
  · rw [List.getElem?_set_ne (by omega)]; exact h.s
theorem Hn.ps (h : Hn n b t μ) {i : Nat} {v : Bool} (hi : i < t.s.ss.length) : ∃ μ', putD μ (.obj (n + 1)) (.int i) (.bl v) = some μ' ∧ Hn n b ⟨⟨t.s.cs, t.s.ss.set i v⟩, t.k⟩ μ' ∧ Ch n μ μ' := by
  refine ⟨_, put_l h.s (by simpa using hi), ⟨?_, ?_, ?_⟩, .set (by omega) (by omega)⟩
  · rw [List.getElem?_set_ne (by omega)]; exact h.d
  · rw [List.getElem?_set_ne (by omega)]; exact h.c
  · rw [List.getElem?_set_self (lt_of h.s)]; simp
theorem Hn.pk (h : Hn n b t μ) (k : Option Key) : ∃ μ', putD μ (.obj (n + 2)) (.str "key") (koD k) = some μ' ∧ Hn n b ⟨t.s, k⟩ μ' ∧ Ch n μ μ' := by
  refine ⟨μ.set (n + 2) (.dct [("board", b.d), ("counters", .obj n), ("switches", .obj (n + 1)), ("key", koD k)]), ?_, ⟨?_, ?_, ?_⟩, .set (by omega) (by omega)⟩
  · simp only [putD, h.d, lk_k, pt_k]
    simp
  · rw [List.getElem?_set_self (lt_of h.d)]
  · rw [List.getElem?_set_ne (by omega)]; exact h.c
  · rw [List.getElem?_set_ne (by omega)]; exact h.s
theorem lsource_ok (h : Hn n b t μ) (ht : t.ok b) {c : Card Int} {s : Src} {w : When} (hs : s.ok b.nc w) : F_law_source [.obj (n + 2), c.d, s.d] μ = some (.ok (.int (num t.s.cs c.x c.y s)), μ) := by
  cases s with
  | x => simp [F_law_source, B__law_source, go, Src.d, eq_xx, Card.d, num]
  | y => simp [F_law_source, B__law_source, go, Src.d, eq_yx, Card.d, num]
  | c i =>
    have hi : i < b.nc := hs
    simp [F_law_source, B__law_source, go, Src.d, h.cnt, h.ci (show i < t.s.cs.length by have := ht.1; omega), num]
theorem nin_tm {tm : Tm} {w : When} : Op.do .nin μ w.d (.lst tm.ws) = some (.bl (!tm.has w)) := by
  cases tm with
  | card h => cases h <;> cases w <;> kernel_rfl
  | brk m => cases m <;> cases w <;> kernel_rfl
theorem litems_comp (h : Hn n b t μ) (ht : t.ok b) {c : Card Int} {w : When} {ss : List Src} (hs : ∀ s ∈ ss, s.ok b.nc w) (hn : ss.length ≤ 3) {δ : List Sl} (h0 : δ[0]? = some (.d (.obj (n + 2)))) (h2 : δ[2]? = some (.d c.d)) (hd : δ.length = 11) :
    compL (.name 10) (ev (.con (.bl true))) (ev (.call F_law_source (.cons (.var 0) (.cons (.var 2) (.cons (.var 10) .nil))))) δ (ss.map Src.d) [] μ = some (.ok (.lst ((ss.map (num t.s.cs c.x c.y)).map .int)), μ) := by
  have := comp_map (μ := μ) (f := Src.d) (g := fun s => .int (num t.s.cs c.x c.y s)) (tg := .name 10) (keep := ev (.con (.bl true))) (elt := ev (.call F_law_source (.cons (.var 0) (.cons (.var 2) (.cons (.var 10) .nil))))) (δ := δ) (fun δ μ => by simp) ss [] (by rw [szL]; simp; omega) (fun s hx => ⟨_, rfl, by
    have a2 : (δ.set 10 (.d s.d))[0]? = some (.d (.obj (n + 2))) := by rw [List.getElem?_set_ne (by decide)]; exact h0
    have a4 : (δ.set 10 (.d s.d))[2]? = some (.d c.d) := by rw [List.getElem?_set_ne (by decide)]; exact h2
    have a10 : (δ.set 10 (.d s.d))[10]? = some (.d s.d) := by rw [List.getElem?_set_self (by omega)]
    simp [a2, a4, a10, lsource_ok h ht (hs s hx)]⟩)
  rw [List.nil_append] at this
  rw [this, List.map_map]
  rfl
end
def bodyGo : Ss := match B__law_go with
  | .cons _ (.cons (.for_ _ _ b) _) => b
  | _ => .nil
section
variable {n : Nat} {b : Board}
theorem go_loop (hb : b.ok) {tm : Tm} {c : Card Int} {ko : Option Key} : ∀ (ws : List Wire) (i : Nat) (acc : List D) (s : St Int) (μ : List Mo) (a1 a2 a3 a4 a5 a6 a7 : Sl), (∀ w ∈ ws, w.ok b.nc b.ns) → Hn n b ⟨s, ko⟩ μ → s.ok b.nc b.ns → acc.length + ws.length ≤ 1000000 →
    ∃ a1' a2' a3' a4' a5' a6' a7' μ', forL (.trip (.name 4) (.name 5) (.name 6)) (exs bodyGo) (ws.map Wire.d) [.d (.obj (n + 2)), .d (.lst tm.ws), .d c.d, .lin acc, a1, a2, a3, a4, a5, a6, a7] μ =
      some (.nx, [.d (.obj (n + 2)), .d (.lst tm.ws), .d c.d, .lin (acc ++ (passM tm c.k c.x c.y i ws s).2.map Pr.e), a1', a2', a3', a4', a5', a6', a7'], μ') ∧ Hn n b ⟨(passM tm c.k c.x c.y i ws s).1, ko⟩ μ' ∧ Ch n μ μ'
  | [], i, acc, s, μ, a1, a2, a3, a4, a5, a6, a7, _, hh, hs, hz => ⟨a1, a2, a3, a4, a5, a6, a7, μ, by simp [forL, passM], hh, .refl⟩
  | w :: ws, i, acc, s, μ, a1, a2, a3, a4, a5, a6, a7, hw, hh, hs, hz => by
    obtain ⟨k, h, x, y⟩ := c
    have hw1 := hw w List.mem_cons_self
    have hw2 : ∀ w ∈ ws, w.ok b.nc b.ns := fun y hy => hw y (List.mem_cons_of_mem _ hy)
    have hz1 : acc.length + ws.length ≤ 1000000 := by simp at hz; omega
    have hz0 : acc.length < 16777216 := by omega
    have hin := nin_tm (μ := μ) (tm := tm) (w := w.when)
    have hmj := eq_maj (μ := μ) (w := w.when)
    have hcut := sl_key (μ := μ) (k := k) (h := h) (x := x) (y := y)
    -- whether the switch is off
    have hoff : ∀ (δ : List Sl), δ[0]? = some (.d (.obj (n + 2))) → δ[5]? = some (.d (swD w.sw)) → ev (.and_ (.op .isn (.var 5) (.con .non)) (.op .ne (.idx (.idx (.var 0) (.con (.str "switches"))) (.idx (.var 5) (.con (.int (0))))) (.idx (.var 5) (.con (.int (1)))))) δ μ = some (.ok (.bl (!swOk s.ss w.sw)), μ) := by
      intro δ d0 d5
      rcases hsw : w.sw with _ | ⟨j, v⟩
      · rw [hsw] at d5
        simp [d5, swD, swOk]
      · rw [hsw] at d5
        have hj : j < b.ns := hw1.1 j v hsw
        simp [d0, d5, swD, swOk, hh.swi, hh.si (show j < s.ss.length by have := hs.2; omega), eq_bl]
    have hoff1 : ∀ a4, ev (.and_ (.op .isn (.var 5) (.con .non)) (.op .ne (.idx (.idx (.var 0) (.con (.str "switches"))) (.idx (.var 5) (.con (.int (0))))) (.idx (.var 5) (.con (.int (1)))))) [.d (.obj (n + 2)), .d (.lst tm.ws), .d (Card.d ⟨k, h, x, y⟩), .lin acc, .d w.when.d, .d (swD w.sw), .d w.act.d, a4, a5, a6, a7] μ = some (.ok (.bl (!swOk s.ss w.sw)), μ) := fun a4 => hoff _ rfl rfl
    clear hoff
    obtain ⟨O, hO⟩ : ∃ O, E.and_ (.op .isn (.var 5) (.con .non)) (.op .ne (.idx (.idx (.var 0) (.con (.str "switches"))) (.idx (.var 5) (.con (.int (0))))) (.idx (.var 5) (.con (.int (1))))) = O := ⟨_, rfl⟩
    rw [hO] at hoff1
    have hbody : bodyGo = .cons (.set (.name 7) O) (dropS 1 bodyGo) := by rw [← hO]; rfl
    by_cases ho : (tm.has w.when && swOk s.ss w.sw) = true
    · obtain ⟨ht, hsw⟩ := Bool.and_eq_true_iff.mp ho
      rw [ht] at hin
      rw [hsw] at hoff1
      simp at hin
      cases hp : isP w.act with
      | some ss =>
        have hact : w.act = .print ss := by cases hx : w.act <;> rw [hx] at hp <;> simp [isP] at hp; subst hp; rfl
        have hok := hw1.2
        rw [hact] at hok
        obtain ⟨o1, o2, o3⟩ : 1 ≤ ss.length ∧ ss.length ≤ 3 ∧ ∀ s ∈ ss, s.ok b.nc w.when := hok
        have hr : passM tm k x y i (w :: ws) s = ((passM tm k x y (i + 1) ws s).1, ⟨ss.map (num s.cs x y), k, whenMaj w.when, i⟩ :: (passM tm k x y (i + 1) ws s).2) := by
          rw [passM, if_pos ho, hp]
        simp only [hr]
        obtain ⟨a1', a2', a3', a4', a5', a6', a7', μ', ih, ih2, ih3⟩ := go_loop hb (tm := tm) (c := ⟨k, h, x, y⟩) ws (i + 1) (acc ++ [Pr.e ⟨ss.map (num s.cs x y), k, whenMaj w.when, i⟩]) s μ (.d w.when.d) (.d (swD w.sw)) (.d w.act.d) (.d (.bl false)) (.d (.tup ((ss.map (num s.cs x y)).map .int))) a6 a7 hw2 hh hs (by simp at hz ⊢; omega)
        have hic := litems_comp (c := ⟨k, h, x, y⟩) hh hs o3 o2 (δ := [.d (.obj (n + 2)), .d (.lst tm.ws), .d (Card.d ⟨k, h, x, y⟩), .lin acc, .d w.when.d, .d (swD w.sw), .d w.act.d, .d (.bl false), a5, a6, .un]) rfl rfl rfl
        refine ⟨a1', a2', a3', a4', a5', a6', a7', μ', ?_, ih2, ih3⟩
        obtain ⟨T, hT⟩ : ∃ T, D.lst tm.ws = T := ⟨_, rfl⟩
        rw [hT] at hin ih hic hoff1 ⊢
        rw [hbody] at ih ⊢
        rw [hact] at hic ih hoff1
        simp [Pr.e, Pr.it, Pr.hd] at ih
        simp [Act.d, keyD] at hic ih hcut hoff1 ⊢
        simp [forL, Wire.d, hact, Act.d, hoff1, dropS, bodyGo, B__law_go, hin, eq_pp, kcomp, wipeS, hic, hcut, hmj, szL, hz0]
        simp [dropS, bodyGo, B__law_go] at ih
        simp [Pr.e, Pr.it, Pr.hd]
        exact ih
      | none =>
        have hr : passM tm k x y i (w :: ws) s = passM tm k x y (i + 1) ws (stepA x y s w.act) := by
          rw [passM, if_pos ho, hp]
        simp only [hr]
        have hok := hw1.2
        have hs2 := step_ok (x := x) (y := y) (a := w.act) hs
        cases hx : w.act with
        | print ss => rw [hx] at hp; simp [isP] at hp
        | clear j =>
          rw [hx] at hok hoff1 hs2
          have hj : j < b.nc := hok
          obtain ⟨μ1, p1, p2, p3⟩ := hh.pc (i := j) (v := 0) (by have := hs.1; simp; omega)
          obtain ⟨a1', a2', a3', a4', a5', a6', a7', μ', ih, ih2, ih3⟩ := go_loop hb (tm := tm) (c := ⟨k, h, x, y⟩) ws (i + 1) acc (stepA x y s (.clear j)) μ1 (.d w.when.d) (.d (swD w.sw)) (.d (Act.d (.clear j))) (.d (.bl false)) a5 a6 a7 hw2 p2 hs2 hz1
          refine ⟨a1', a2', a3', a4', a5', a6', a7', μ', ?_, ih2, p3.trans ih3⟩
          obtain ⟨T, hT⟩ : ∃ T, D.lst tm.ws = T := ⟨_, rfl⟩
          rw [hT] at hin ih hoff1 ⊢
          rw [hbody] at ih ⊢
          simp [Act.d] at hoff1 ih
          simp [forL, Wire.d, hx, Act.d, hoff1, dropS, bodyGo, B__law_go, hin, eq_cp, eq_cs, eq_cc, hh.cnt, p1]
          simp [dropS, bodyGo, B__law_go] at ih
          exact ih
        | set j v =>
          rw [hx] at hok hoff1 hs2
          have hj : j < b.ns := hok
          obtain ⟨μ1, p1, p2, p3⟩ := hh.ps (i := j) (v := v) (by have := hs.2; simp; omega)
          obtain ⟨a1', a2', a3', a4', a5', a6', a7', μ', ih, ih2, ih3⟩ := go_loop hb (tm := tm) (c := ⟨k, h, x, y⟩) ws (i + 1) acc (stepA x y s (.set j v)) μ1 (.d w.when.d) (.d (swD w.sw)) (.d (Act.d (.set j v))) (.d (.bl false)) a5 a6 a7 hw2 p2 hs2 hz1
          refine ⟨a1', a2', a3', a4', a5', a6', a7', μ', ?_, ih2, p3.trans ih3⟩
          obtain ⟨T, hT⟩ : ∃ T, D.lst tm.ws = T := ⟨_, rfl⟩
          rw [hT] at hin ih hoff1 ⊢
          rw [hbody] at ih ⊢
          simp [Act.d] at hoff1 ih
          simp [forL, Wire.d, hx, Act.d, hoff1, dropS, bodyGo, B__law_go, hin, eq_sp, eq_ss, hh.swi, p1]
          simp [dropS, bodyGo, B__law_go] at ih
          exact ih
        | add l v j =>
          rw [hx] at hok hoff1 hs2
          obtain ⟨hv, hj⟩ : v.ok b.nc w.when ∧ j < b.nc := hok
          have hjl : j < s.cs.length := by have := hs.1; omega
          have hso := lsource_ok hh hs (c := ⟨k, h, x, y⟩) hv
          have hci := hh.ci (i := j) hjl
          obtain ⟨μ1, p1, p2, p3⟩ := hh.pc (i := j) (v := s.cs.getD j 0 + if l = true then -num s.cs x y v else num s.cs x y v) hjl
          obtain ⟨a1', a2', a3', a4', a5', a6', a7', μ', ih, ih2, ih3⟩ := go_loop hb (tm := tm) (c := ⟨k, h, x, y⟩) ws (i + 1) acc (stepA x y s (.add l v j)) μ1 (.d w.when.d) (.d (swD w.sw)) (.d (Act.d (.add l v j))) (.d (.bl false)) a5 (.d (.int (if l = true then -num s.cs x y v else num s.cs x y v))) a7 hw2 p2 hs2 hz1
          refine ⟨a1', a2', a3', a4', a5', a6', a7', μ', ?_, ih2, p3.trans ih3⟩
          obtain ⟨T, hT⟩ : ∃ T, D.lst tm.ws = T := ⟨_, rfl⟩
          rw [hT] at hin ih hoff1 ⊢
          rw [hbody] at ih ⊢
          have e1 := eq_ap (μ := μ) l
          have e2 := eq_as (μ := μ) l
          have e3 := eq_aa (μ := μ) l
          have e4 := eq_ac (μ := μ) l
          cases l <;> simp [Act.d] at hoff1 ih e1 e2 e3 e4 p1 hso hci <;> simp [forL, Wire.d, hx, Act.d, hoff1, dropS, bodyGo, B__law_go, hin, e1, e2, e3, e4, hh.cnt, hso, hci, p1] <;> simp [dropS, bodyGo, B__law_go] at ih <;> exact ih
    · have hr : passM tm k x y i (w :: ws) s = passM tm k x y (i + 1) ws s := by
        rw [passM, if_neg ho]
      simp only [hr]
      obtain ⟨a1', a2', a3', a4', a5', a6', a7', μ', ih, ih2, ih3⟩ := go_loop hb (tm := tm) (c := ⟨k, h, x, y⟩) ws (i + 1) acc s μ (.d w.when.d) (.d (swD w.sw)) (.d w.act.d) (.d (.bl (!swOk s.ss w.sw))) a5 a6 a7 hw2 hh hs hz1
      refine ⟨a1', a2', a3', a4', a5', a6', a7', μ', ?_, ih2, ih3⟩
      obtain ⟨T, hT⟩ : ∃ T, D.lst tm.ws = T := ⟨_, rfl⟩
      rw [hT] at hin ih hoff1 ⊢
      rw [hbody] at ih ⊢
      cases ht : tm.has w.when with
      | false =>
        rw [ht] at hin
        simp [forL, Wire.d, hoff1, dropS, bodyGo, B__law_go, hin]
        simp [dropS, bodyGo, B__law_go] at ih
        exact ih
      | true =>
        rw [ht] at hin ho
        cases hq : swOk s.ss w.sw with
        | true => rw [hq] at ho; simp at ho
        | false =>
          rw [hq] at hoff1 ih
          simp [forL, Wire.d, hoff1, dropS, bodyGo, B__law_go, hin]
          simp [dropS, bodyGo, B__law_go] at ih
          exact ih
end
end Mm
set_option Elab.async false
set_option linter.all false
set_option maxRecDepth 100000
set_option maxHeartbeats 4000000
/-! Mcf: the laws' own machine: cards, rows, sheets. -/
namespace Mm
open PySem L2 Mi Pg Ev Dr
theorem lvl_none {a c : Key} (h : lvl (some a) c = none) : a = c := by
  by_cases e : a = c
  · exact e
  · simp [lvl, e] at h
theorem lvl_some {a c : Key} {m : Bool} (h : lvl (some a) c = some m) : a ≠ c ∧ m = decide (a.1 ≠ c.1) := by
  by_cases e : a = c
  · simp [lvl, e] at h
  · simp only [lvl, if_neg e, Option.some.injEq] at h
    exact ⟨e, h.symm⟩
def peD (ps : List (Pr Int)) : D := .lst (ps.map Pr.e)
section
variable {n : Nat} {b : Board} {μ : List Mo}
theorem go_ok (hb : b.ok) {tm : Tm} {c : Card Int} {ko : Option Key} {s : St Int} (hh : Hn n b ⟨s, ko⟩ μ) (hs : s.ok b.nc b.ns) :
    ∃ μ', F_law_go [.obj (n + 2), .lst tm.ws, c.d] μ = some (.ok (peD (passM tm c.k c.x c.y 0 b.ws s).2), μ') ∧ Hn n b ⟨(passM tm c.k c.x c.y 0 b.ws s).1, ko⟩ μ' ∧ Ch n μ μ' := by
  have hl := hb.l
  obtain ⟨a1, a2, a3, a4, a5, a6, a7, μ', h, h2, h3⟩ := go_loop hb (tm := tm) (c := c) (ko := ko) b.ws 0 [] s μ .un .un .un .un .un .un .un hb.w hh hs (by simp; omega)
  refine ⟨μ', ?_, h2, h3⟩
  have hi : ixD μ b.d (.int 2) = some (.tup (b.ws.map Wire.d)) := by simp [Board.d]
  simp [bodyGo, B__law_go] at h
  simp [F_law_go, B__law_go, go, szL, hh.board, hi, x_kfor, h, peD]
theorem add_brk {k : Key} : addD μ (keyD k) (.tup [.bl false, .int 0, .int 0]) = some (Card.d ⟨k, false, 0, 0⟩) := by simp [keyD, Card.d, szL]
theorem sl_key5 {c : Card Int} : slD μ c.d none (some 2) = some (keyD c.k) := by obtain ⟨k, h, x, y⟩ := c; exact sl_key
theorem next_ok (hb : b.ok) {c : Card Int} {t : Sd Int} (hh : Hn n b t μ) (ht : t.ok b) :
    ∃ μ', F_law_next [.obj (n + 2), c.d] μ = some (.ok (peD (feedM b t c).2), μ') ∧ Hn n b (feedM b t c).1 μ' ∧ Ch n μ μ' := by
  obtain ⟨s, ko⟩ := t
  obtain ⟨s1, p1, e1⟩ : ∃ s1 p1, brkM b ⟨s, ko⟩ c.k = (s1, p1) := ⟨_, _, rfl⟩
  obtain ⟨hbk, hbl⟩ := brk_ok (k := c.k) hb ht
  obtain ⟨_, hfl⟩ := feed_okM (c := c) hb ht
  rw [e1] at hbk hbl
  have hf : feedM b ⟨s, ko⟩ c = (⟨(passM (.card c.h) c.k c.x c.y 0 b.ws s1).1, some c.k⟩, p1 ++ (passM (.card c.h) c.k c.x c.y 0 b.ws s1).2) := by simp only [feedM, e1]
  rw [hf] at hfl ⊢
  -- the last part
  have last : ∀ μ1 (wd : Sl), Hn n b ⟨s1, ko⟩ μ1 → Ch n μ μ1 → ∃ μ', fin (exs (dropS 2 B__law_next) [.d (.obj (n + 2)), .d c.d, .d (peD p1), .d (koD ko), wd] μ1) = some (.ok (peD (p1 ++ (passM (.card c.h) c.k c.x c.y 0 b.ws s1).2)), μ') ∧ Hn n b ⟨(passM (.card c.h) c.k c.x c.y 0 b.ws s1).1, some c.k⟩ μ' ∧ Ch n μ μ' := by
    intro μ1 wd h1 c1
    obtain ⟨μ2, k1, k2, k3⟩ := h1.pk (some c.k)
    obtain ⟨μ3, g1, g2, g3⟩ := go_ok hb (tm := .card c.h) (c := c) k2 hbk
    refine ⟨μ3, ?_, g2, (c1.trans k3).trans g3⟩
    simp only [List.length_append] at hfl
    have z1 : p1.length + (passM (.card c.h) c.k c.x c.y 0 b.ws s1).2.length ≤ 16777216 := by omega
    have hix : ixD μ2 c.d (.int 2) = some (.bl c.h) := by simp [Card.d]
    simp only [koD] at k1
    simp [Tm.ws] at g1
    cases hc : c.h <;> rw [hc] at g1 z1 hix <;> simp at g1 <;> simp [dropS, B__law_next, sl_key5, k1, hix, szL, g1, peD, z1, koD]
  have hkey := hh.key
  cases ko with
  | none =>
    simp [brkM, lvl] at e1
    obtain ⟨rfl, rfl⟩ := e1
    obtain ⟨μ', l1, l2, l3⟩ := last μ .un hh .refl
    refine ⟨μ', ?_, l2, l3⟩
    rw [← l1]
    simp [koD] at hkey
    simp [F_law_next, B__law_next, go, szL, hkey, koD, peD]
    simp [dropS]
  | some k0 =>
    simp only [koD] at hkey
    have hk0 := isn_key (k := k0)
    have hek := eq_key (μ := μ) (a := k0) (b := c.k)
    cases hlv : lvl (some k0) c.k with
    | none =>
      have heq : k0 = c.k := lvl_none hlv
      simp only [brkM, hlv] at e1
      simp at e1
      obtain ⟨rfl, rfl⟩ := e1
      rw [decide_eq_true heq] at hek
      obtain ⟨μ', l1, l2, l3⟩ := last μ .un hh .refl
      refine ⟨μ', ?_, l2, l3⟩
      rw [← l1]
      simp [F_law_next, B__law_next, go, szL, hkey, hk0, sl_key5, hek, koD, peD]
      simp [dropS, sl_key5]
    | some m =>
      obtain ⟨hne, hm⟩ : k0 ≠ c.k ∧ m = decide (k0.1 ≠ c.k.1) := lvl_some hlv
      simp only [brkM, hlv] at e1
      simp at e1
      rw [decide_eq_false hne] at hek
      obtain ⟨μ1, g1, g2, g3⟩ := go_ok hb (tm := .brk m) (c := ⟨k0, false, 0, 0⟩) hh ht
      simp only [e1] at g1 g2
      obtain ⟨μ', l1, l2, l3⟩ := last μ1 (.d (.lst (Tm.brk m).ws)) g2 g3
      refine ⟨μ', ?_, l2, l3⟩
      rw [← l1]
      have hi0 : ixD μ (keyD k0) (.int 0) = some (.int k0.1) := by simp [keyD]
      have hi1 : ixD μ c.d (.int 0) = some (.int c.k.1) := by simp [Card.d]
      by_cases hq : k0.1 = c.k.1
      · have : m = false := by rw [hm]; simp [hq]
        subst this
        simp [Tm.ws] at g1
        simp [F_law_next, B__law_next, go, szL, hkey, hk0, sl_key5, hek, hi0, hi1, hq, add_brk, g1, koD]
        simp [dropS, Tm.ws, sl_key5]
      · have : m = true := by rw [hm]; simp [hq]
        subst this
        simp [Tm.ws] at g1
        simp [F_law_next, B__law_next, go, szL, hkey, hk0, sl_key5, hek, hi0, hi1, hq, add_brk, g1, koD]
        simp [dropS, Tm.ws, sl_key5]
theorem last_ok (hb : b.ok) {t : Sd Int} (hh : Hn n b t μ) (ht : t.ok b) :
    ∃ μ', F_law_last [.obj (n + 2)] μ = some (.ok (peD (finM b t).2), μ') ∧ Hn n b (finM b t).1 μ' ∧ Ch n μ μ' := by
  obtain ⟨s, ko⟩ := t
  have hkey := hh.key
  obtain ⟨μ2, k1, k2, k3⟩ := hh.pk none
  simp only [koD] at k1
  cases ko with
  | none =>
    refine ⟨μ2, ?_, k2, k3⟩
    simp [koD] at hkey
    simp [F_law_last, B__law_last, go, szL, hkey, k1, finM, peD]
  | some k0 =>
    simp only [koD] at hkey
    obtain ⟨μ3, g1, g2, g3⟩ := go_ok hb (tm := .brk true) (c := ⟨k0, false, 0, 0⟩) k2 ht
    simp [Tm.ws] at g1 g2
    refine ⟨μ3, ?_, by simpa [finM] using g2, k3.trans g3⟩
    simp [F_law_last, B__law_last, go, szL, hkey, k1, isn_key, add_brk, g1, finM, peD]
/-- memory that only grows -/
structure Gr (μ μ' : List Mo) : Prop where
  le : μ.length ≤ μ'.length
  old : ∀ m, m < μ.length → μ'[m]? = μ[m]?
theorem Gr.refl {μ : List Mo} : Gr μ μ := ⟨Nat.le_refl _, fun _ _ => rfl⟩
theorem Gr.trans {μ μ1 μ2 : List Mo} (a : Gr μ μ1) (b : Gr μ1 μ2) : Gr μ μ2 := ⟨Nat.le_trans a.le b.le, fun m h => (b.old m (Nat.lt_of_lt_of_le h a.le)).trans (a.old m h)⟩
theorem Gr.app {μ l : List Mo} : Gr μ (μ ++ l) := ⟨by simp, fun m h => by rw [List.getElem?_append_left h]⟩
theorem Gr.ch {μ μ1 μ2 : List Mo} {n : Nat} (a : Gr μ μ1) (b : Ch n μ1 μ2) (h : μ.length ≤ n) : Gr μ μ2 := ⟨by rw [b.len]; exact a.le, fun m hm => (b.oth m (.inl (by omega))).trans (a.old m hm)⟩
theorem z3f (a c s k : D) : (decide ((["board", "counters", "switches", "key"] : List Str).length = [a, c, s, k].length) && decide ((["board", "counters", "switches", "key"] : List Str).length ≤ 15) && decide (["board", "counters", "switches", "key"] : List Str).Nodup && !(["board", "counters", "switches", "key"] : List Str).isEmpty) = true := by
  have h : (decide (4 = 4) && decide (4 ≤ 15) && decide (["board", "counters", "switches", "key"] : List Str).Nodup && !(["board", "counters", "switches", "key"] : List Str).isEmpty) = true := by decide +kernel
  exact h
theorem fresh_ok (hb : b.ok) : ∃ μ', F_law_fresh [b.d] μ = some (.ok (.obj (μ.length + 2)), μ') ∧ Hn μ.length b (begM b) μ' ∧ Gr μ μ' ∧ μ'.length = μ.length + 3 := by
  have h1 := hb.c
  have h2 := hb.s
  have z1 : (decide (-(2 ^ 63) ≤ (b.nc : Int)) && decide ((b.nc : Int) < 2 ^ 63) && decide ((b.nc : Int).toNat ≤ sizeLine)) = true := by rw [szL]; simp; omega
  have z2 : (decide (-(2 ^ 63) ≤ (b.ns : Int)) && decide ((b.ns : Int) < 2 ^ 63) && decide ((b.ns : Int).toNat ≤ sizeLine)) = true := by rw [szL]; simp; omega
  have e : F_law_fresh [b.d] μ = some (.ok (.obj (μ.length + 2)), μ ++ [.lst (List.replicate b.nc (.int 0)), .lst (List.replicate b.ns (.bl false)), .dct [("board", b.d), ("counters", .obj μ.length), ("switches", .obj (μ.length + 1)), ("key", .non)]]) := by
    have hi0 : ∀ μ, ixD μ b.d (.int 0) = some (.int b.nc) := fun μ => ixb0
    have hi1 : ∀ μ, ixD μ b.d (.int 1) = some (.int b.ns) := fun μ => ixb1
    simp [F_law_fresh, B__law_fresh, go, hi0, hi1, e_kmr2 z1, e_kmr2 z2, e_kdct (z3f _ _ _ _)]
  refine ⟨_, e, ⟨?_, ?_, ?_⟩, .app, by simp⟩
  · simp [koD, begM]
  · simp [begM]
  · simp [begM]
end
end Mm
set_option Elab.async false
set_option linter.all false
set_option maxRecDepth 100000
set_option maxHeartbeats 4000000
/-! Mcg: rows of the laws' machines, sheets. -/
namespace Mm
open PySem L2 Mi Pg Ev Dr
/-- the machines of a row, made one after the other from n on -/
def MR (r : Row) (n : Nat) (t : Sd Int × Sd Int) (μ : List Mo) : Prop := match r with
  | .one a => Hn n a t.1 μ
  | .two a b => Hn n a t.1 μ ∧ Hn (n + 3) b t.2 μ
def mD (r : Row) (n : Nat) : D := match r with
  | .one _ => .lst [.obj (n + 2)]
  | .two _ _ => .lst [.obj (n + 2), .obj (n + 3 + 2)]
theorem Hn.ch {n m : Nat} {b : Board} {t : Sd Int} {μ μ' : List Mo} (h : Hn n b t μ) (c : Ch m μ μ') (d : n + 3 ≤ m ∨ m + 3 ≤ n) : Hn n b t μ' := by
  refine ⟨?_, ?_, ?_⟩
  · rw [c.oth _ (by omega)]; exact h.d
  · rw [c.oth _ (by omega)]; exact h.c
  · rw [c.oth _ (by omega)]; exact h.s
section
variable {n : Nat} {b : Board} {μ : List Mo}
/-- the lines of what was printed -/
theorem pair_comp {δ : List Sl} {i j : Nat} (hi : i < δ.length) (hij : i ≠ j) : ∀ (ps : List (Pr Int)) (acc : List D), acc.length + ps.length ≤ 10000000 →
    compL (.pair (.name i) (.name j)) (ev (.con (.bl true))) (ev (.var i)) δ (ps.map Pr.e) acc μ = some (.ok (.lst (acc ++ ps.map Pr.it)), μ)
  | [], acc, _ => by simp [compL, retR]
  | p :: ps, acc, hz => by
    simp only [List.length_cons] at hz
    have hz2 : acc.length < 16777216 := by omega
    have ih := pair_comp hi hij ps (acc ++ [p.it]) (by simp; omega)
    have h1 : ((δ.set i (.d p.it)).set j (.d p.hd))[i]? = some (.d p.it) := by rw [List.getElem?_set_ne (by omega), List.getElem?_set_self hi]
    simp at ih
    simp [compL, Pr.e, noE, szL, hz2, h1, ih]
theorem add_hdi {p : Pr Int} {x y : Int} (h : p.items = [x, y]) : addD μ p.hd p.it = some (Card.d ⟨p.k, p.m, x, y⟩) := by
  simp [Pr.hd, Pr.it, h, Card.d, szL]
theorem len_it {p : Pr Int} : Bi.do .len μ [p.it] = some (.int p.items.length) := by simp [Pr.it]
theorem card_of2 {p : Pr Int} : (p.items.length = 2 ∧ ∃ x y, p.items = [x, y] ∧ cardOf p = some ⟨p.k, p.m, x, y⟩) ∨ (¬ p.items.length = 2 ∧ cardOf p = none) := by
  obtain ⟨its, k, m, ix⟩ := p
  match its with
  | [] => exact .inr ⟨by simp, rfl⟩
  | [x] => exact .inr ⟨by simp, rfl⟩
  | [x, y] => exact .inl ⟨rfl, x, y, rfl, rfl⟩
  | x :: y :: z :: l => exact .inr ⟨by simp, rfl⟩
end
def bodyNext : Ss := match B__law_all_next with
  | .cons _ (.cons _ (.cons _ (.cons (.for_ _ _ b) _))) => b
  | _ => .nil
def bodyLast : Ss := match B__law_all_last with
  | .cons _ (.cons _ (.cons _ (.cons (.for_ _ _ b) _))) => b
  | _ => .nil
section
variable {n : Nat} {b : Board}
theorem next_loop (hb : b.ok) {o : D} : ∀ (ps : List (Pr Int)) (acc : List D) (t : Sd Int) (μ : List Mo) (d1 d2 a1 a2 a3 a4 : Sl), Hn n b t μ → t.ok b → acc.length + 16 * ps.length ≤ 1000000 →
    ∃ a1' a2' a3' a4' μ', forL (.pair (.name 4) (.name 5)) (exs bodyNext) (ps.map Pr.e) [.d (.lst [o, .obj (n + 2)]), d1, d2, .d (.lst acc), a1, a2, a3, a4] μ =
      some (.nx, [.d (.lst [o, .obj (n + 2)]), d1, d2, .d (.lst (acc ++ (fedM b t (cardsM ps)).2.map Pr.it)), a1', a2', a3', a4'], μ') ∧ Hn n b (fedM b t (cardsM ps)).1 μ' ∧ Ch n μ μ'
  | [], acc, t, μ, d1, d2, a1, a2, a3, a4, h, ht, hz => ⟨a1, a2, a3, a4, μ, by simp [forL, cardsM, fedM], h, .refl⟩
  | p :: ps, acc, t, μ, d1, d2, a1, a2, a3, a4, h, ht, hz => by
    simp only [List.length_cons] at hz
    rcases card_of2 (p := p) with ⟨hl, x, y, hi, hc⟩ | ⟨hl, hc⟩
    · obtain ⟨f1, f2⟩ := feed_okM (c := ⟨p.k, p.m, x, y⟩) hb ht
      obtain ⟨μ1, e1, h1, c1⟩ := next_ok hb (c := ⟨p.k, p.m, x, y⟩) h ht
      obtain ⟨a1', a2', a3', a4', μ', ih, ih2, ih3⟩ := next_loop hb (o := o) ps (acc ++ (feedM b t ⟨p.k, p.m, x, y⟩).2.map Pr.it) (feedM b t ⟨p.k, p.m, x, y⟩).1 μ1 d1 d2 (.d p.it) (.d p.hd) a3 a4 h1 f1 (by simp; omega)
      have hcm : cardsM (p :: ps) = ⟨p.k, p.m, x, y⟩ :: cardsM ps := by simp [cardsM, List.filterMap_cons, hc]
      rw [hcm]
      refine ⟨a1', a2', a3', a4', μ', ?_, ih2, c1.trans ih3⟩
      have hp := pair_comp (μ := μ1) (δ := [.d (.lst [o, .obj (n + 2)]), d1, d2, .d (.lst acc), .d p.it, .d p.hd, .un, .un]) (i := 6) (j := 7) (by simp) (by decide) (feedM b t ⟨p.k, p.m, x, y⟩).2 [] (by simp; omega)
      have z1 : acc.length + (feedM b t ⟨p.k, p.m, x, y⟩).2.length ≤ 16777216 := by omega
      simp at hp
      simp only [peD] at e1
      simp [forL, Pr.e, bodyNext, B__law_all_next, len_it, hl, add_hdi hi, e1, kcomp, wipeS, hp, szL, z1]
      simp [bodyNext, B__law_all_next, List.append_assoc] at ih
      simp [fedM]
      exact ih
    · obtain ⟨a1', a2', a3', a4', μ', ih, ih2, ih3⟩ := next_loop hb (o := o) ps acc t μ d1 d2 (.d p.it) (.d p.hd) a3 a4 h ht (by omega)
      have hcm : cardsM (p :: ps) = cardsM ps := by simp [cardsM, List.filterMap_cons, hc]
      rw [hcm]
      refine ⟨a1', a2', a3', a4', μ', ?_, ih2, ih3⟩
      have hl2 : ¬ ((p.items.length : Int) = 2) := by omega
      simp [forL, Pr.e, bodyNext, B__law_all_next, len_it, hl2]
      simp [bodyNext, B__law_all_next] at ih
      exact ih
theorem last_loop (hb : b.ok) {o : D} : ∀ (ps : List (Pr Int)) (acc : List D) (t : Sd Int) (μ : List Mo) (d2 a1 a2 a3 a4 : Sl), Hn n b t μ → t.ok b → acc.length + 16 * ps.length ≤ 1000000 →
    ∃ a1' a2' a3' a4' μ', forL (.pair (.name 3) (.name 4)) (exs bodyLast) (ps.map Pr.e) [.d (.lst [o, .obj (n + 2)]), d2, .d (.lst acc), a1, a2, a3, a4] μ =
      some (.nx, [.d (.lst [o, .obj (n + 2)]), d2, .d (.lst (acc ++ (fedM b t (cardsM ps)).2.map Pr.it)), a1', a2', a3', a4'], μ') ∧ Hn n b (fedM b t (cardsM ps)).1 μ' ∧ Ch n μ μ'
  | [], acc, t, μ, d2, a1, a2, a3, a4, h, ht, hz => ⟨a1, a2, a3, a4, μ, by simp [forL, cardsM, fedM], h, .refl⟩
  | p :: ps, acc, t, μ, d2, a1, a2, a3, a4, h, ht, hz => by
    simp only [List.length_cons] at hz
    rcases card_of2 (p := p) with ⟨hl, x, y, hi, hc⟩ | ⟨hl, hc⟩
    · obtain ⟨f1, f2⟩ := feed_okM (c := ⟨p.k, p.m, x, y⟩) hb ht
      obtain ⟨μ1, e1, h1, c1⟩ := next_ok hb (c := ⟨p.k, p.m, x, y⟩) h ht
      obtain ⟨a1', a2', a3', a4', μ', ih, ih2, ih3⟩ := last_loop hb (o := o) ps (acc ++ (feedM b t ⟨p.k, p.m, x, y⟩).2.map Pr.it) (feedM b t ⟨p.k, p.m, x, y⟩).1 μ1 d2 (.d p.it) (.d p.hd) a3 a4 h1 f1 (by simp; omega)
      have hcm : cardsM (p :: ps) = ⟨p.k, p.m, x, y⟩ :: cardsM ps := by simp [cardsM, List.filterMap_cons, hc]
      rw [hcm]
      refine ⟨a1', a2', a3', a4', μ', ?_, ih2, c1.trans ih3⟩
      have hp := pair_comp (μ := μ1) (δ := [.d (.lst [o, .obj (n + 2)]), d2, .d (.lst acc), .d p.it, .d p.hd, .un, .un]) (i := 5) (j := 6) (by simp) (by decide) (feedM b t ⟨p.k, p.m, x, y⟩).2 [] (by simp; omega)
      have z1 : acc.length + (feedM b t ⟨p.k, p.m, x, y⟩).2.length ≤ 16777216 := by omega
      simp at hp
      simp only [peD] at e1
      simp [forL, Pr.e, bodyLast, B__law_all_last, len_it, hl, add_hdi hi, e1, kcomp, wipeS, hp, szL, z1]
      simp [bodyLast, B__law_all_last, List.append_assoc] at ih
      simp [fedM]
      exact ih
    · obtain ⟨a1', a2', a3', a4', μ', ih, ih2, ih3⟩ := last_loop hb (o := o) ps acc t μ d2 (.d p.it) (.d p.hd) a3 a4 h ht (by omega)
      have hcm : cardsM (p :: ps) = cardsM ps := by simp [cardsM, List.filterMap_cons, hc]
      rw [hcm]
      refine ⟨a1', a2', a3', a4', μ', ?_, ih2, ih3⟩
      have hl2 : ¬ ((p.items.length : Int) = 2) := by omega
      simp [forL, Pr.e, bodyLast, B__law_all_last, len_it, hl2]
      simp [bodyLast, B__law_all_last] at ih
      exact ih
end
section
variable {n : Nat} {r : Row} {μ : List Mo}
theorem anext_ok (hr : r.ok) {t : Sd Int × Sd Int} (hm : MR r n t μ) (ht : stOk r t) (hn : μ.length ≥ 0) {c : Card Int} {l : Nat} (hl : l ≤ n) : ∃ μ', F_law_all_next [mD r n, c.d] μ = some (.ok (.lst ((feedR r t c).2.map Pr.it)), μ') ∧ MR r n (feedR r t c).1 μ' ∧ μ'.length = μ.length ∧ ∀ m, m < l → μ'[m]? = μ[m]? := by
  cases r with
  | one a =>
    obtain ⟨μ1, e1, h1, c1⟩ := next_ok (b := a) hr (c := c) hm ht
    obtain ⟨f1, f2⟩ := feed_okM (b := a) (c := c) hr ht
    refine ⟨μ1, ?_, h1, c1.len, fun m h => c1.oth m (.inl (by omega))⟩
    have hp := pair_comp (μ := μ1) (δ := [.d (mD (.one a) n), .d c.d, .d (peD (feedM a t.1 c).2), .un, .un, .un, .un, .un]) (i := 4) (j := 5) (by simp) (by decide) (feedM a t.1 c).2 [] (by simp; omega)
    simp only [mD, peD] at hp e1
    simp at hp
    simp [F_law_all_next, B__law_all_next, go, mD, e1, kcomp, wipeS, hp, feedR]
  | two a b =>
    obtain ⟨ha, hb, _⟩ := hr
    obtain ⟨μ1, e1, h1, c1⟩ := next_ok ha (c := c) hm.1 ht.1
    obtain ⟨f1, f2⟩ := feed_okM (c := c) ha ht.1
    have h2 := hm.2.ch c1 (.inr (by omega))
    obtain ⟨a1', a2', a3', a4', μ', ih, ih2, ih3⟩ := next_loop hb (o := .obj (n + 2)) (feedM a t.1 c).2 [] t.2 μ1 (.d c.d) (.d (peD (feedM a t.1 c).2)) .un .un .un .un h2 ht.2 (by simp; omega)
    refine ⟨μ', ?_, ⟨h1.ch ih3 (.inl (by omega)), ih2⟩, ih3.len.trans c1.len, fun m h => (ih3.oth m (.inl (by omega))).trans (c1.oth m (.inl (by omega)))⟩
    simp only [mD, peD] at e1 ih
    simp [bodyNext, B__law_all_next] at ih
    simp [F_law_all_next, B__law_all_next, go, mD, e1, szL, x_kfor, ih, feedR]
theorem alast_ok (hr : r.ok) {t : Sd Int × Sd Int} (hm : MR r n t μ) (ht : stOk r t) {l : Nat} (hl : l ≤ n) : ∃ μ', F_law_all_last [mD r n] μ = some (.ok (.lst ((endR r t).map Pr.it)), μ') ∧ μ'.length = μ.length ∧ ∀ m, m < l → μ'[m]? = μ[m]? := by
  cases r with
  | one a =>
    obtain ⟨μ1, e1, h1, c1⟩ := last_ok (b := a) hr hm ht
    obtain ⟨f1, f2⟩ := fin_okM (b := a) hr ht
    refine ⟨μ1, ?_, c1.len, fun m h => c1.oth m (.inl (by omega))⟩
    have hp := pair_comp (μ := μ1) (δ := [.d (mD (.one a) n), .d (peD (finM a t.1).2), .un, .un, .un, .un, .un]) (i := 3) (j := 4) (by simp) (by decide) (finM a t.1).2 [] (by simp; omega)
    simp only [mD, peD] at hp e1
    simp at hp
    simp [F_law_all_last, B__law_all_last, go, mD, e1, kcomp, wipeS, hp, endR]
  | two a b =>
    obtain ⟨ha, hb, _⟩ := hr
    obtain ⟨μ1, e1, h1, c1⟩ := last_ok ha hm.1 ht.1
    obtain ⟨f1, f2⟩ := fin_okM ha ht.1
    have h2 := hm.2.ch c1 (.inr (by omega))
    obtain ⟨a1', a2', a3', a4', μ2, ih, ih2, ih3⟩ := last_loop hb (o := .obj (n + 2)) (finM a t.1).2 [] t.2 μ1 (.d (peD (finM a t.1).2)) .un .un .un .un h2 ht.2 (by simp; omega)
    have hl2 := cards_len (finM a t.1).2
    obtain ⟨g1, g2⟩ := fed_okM hb (cardsM (finM a t.1).2) t.2 ht.2
    obtain ⟨μ', e3, h3, c3⟩ := last_ok hb ih2 g1
    obtain ⟨g3, g4⟩ := fin_okM hb g1
    refine ⟨μ', ?_, c3.len.trans (ih3.len.trans c1.len), fun m h => (c3.oth m (.inl (by omega))).trans ((ih3.oth m (.inl (by omega))).trans (c1.oth m (.inl (by omega))))⟩
    have z1 : (fedM b t.2 (cardsM (finM a t.1).2)).2.length + (finM b (fedM b t.2 (cardsM (finM a t.1).2)).1).2.length ≤ 16777216 := by omega
    have z2 : 0 + (finM b (fedM b t.2 (cardsM (finM a t.1).2)).1).2.length ≤ 10000000 := by omega
    rw [endR]
    clear g3 g4 g2 g1 h3 c3 ih2 ih3 h2 h1 c1 f1 f2 hl2
    generalize (finM b (fedM b t.2 (cardsM (finM a t.1).2)).1).2 = P3 at *
    generalize (fedM b t.2 (cardsM (finM a t.1).2)).2 = P2 at *
    generalize (finM a t.1).2 = P1 at *
    have hp := pair_comp (μ := μ') (δ := [.d (.lst [.obj (n + 2), .obj (n + 3 + 2)]), .d (peD P1), .d (.lst (P2.map Pr.it)), a1', a2', .un, .un]) (i := 5) (j := 6) (by simp) (by decide) P3 [] z2
    simp only [peD] at e1 ih e3 hp
    simp at hp
    simp [bodyLast, B__law_all_last] at ih
    simp [F_law_all_last, B__law_all_last, go, mD, e1, szL, x_kfor, ih, e3, kcomp, wipeS, hp, z1]
theorem mr_loop (hr : r.ok) {l : Nat} (hl : l ≤ n) : ∀ (cs : List (Card Int)) (acc : List D) (t : Sd Int × Sd Int) (μ : List Mo) (d1 d2 a : Sl) (b : Sl), MR r n t μ → stOk r t → acc.length + 256 * cs.length ≤ 10000000 →
    ∃ a' μ', forL (.name 4) (exs (.cons (.set (.name 3) (.op .add (.var 3) (.call F_law_all_next (.cons (.var 2) (.cons (.var 4) .nil))))) .nil)) (cs.map Card.d) [d1, d2, .d (mD r n), .d (.lst acc), a, b] μ =
      some (.nx, [d1, d2, .d (mD r n), .d (.lst (acc ++ (fedR r t cs).2.map Pr.it)), a', b], μ') ∧ MR r n (fedR r t cs).1 μ' ∧ μ'.length = μ.length ∧ ∀ m, m < l → μ'[m]? = μ[m]?
  | [], acc, t, μ, d1, d2, a, b, h, ht, hz => ⟨a, μ, by simp [forL, fedR], h, rfl, fun _ _ => rfl⟩
  | c :: cs, acc, t, μ, d1, d2, a, b, h, ht, hz => by
    simp only [List.length_cons] at hz
    obtain ⟨f1, f2⟩ := feedR_ok hr (c := c) ht
    obtain ⟨μ1, e1, h1, l1, o1⟩ := anext_ok hr h ht (Nat.zero_le _) (c := c) hl
    obtain ⟨a', μ', ih, ih2, l2, o2⟩ := mr_loop hr hl cs (acc ++ (feedR r t c).2.map Pr.it) (feedR r t c).1 μ1 d1 d2 (.d c.d) b h1 f1 (by simp; omega)
    have hfr : fedR r t (c :: cs) = ((fedR r (feedR r t c).1 cs).1, (feedR r t c).2 ++ (fedR r (feedR r t c).1 cs).2) := by rw [fedR]
    rw [hfr]
    have z1 : acc.length + (feedR r t c).2.length ≤ 16777216 := by omega
    clear hfr h ht f1 f2 h1
    generalize (fedR r (feedR r t c).1 cs).1 = T1 at *
    generalize (fedR r (feedR r t c).1 cs).2 = T2 at *
    generalize (feedR r t c).2 = T3 at *
    refine ⟨a', μ', ?_, ih2, l2.trans l1, fun m hm => (o2 m hm).trans (o1 m hm)⟩
    simp [forL, e1, szL, z1]
    simp [List.append_assoc] at ih
    exact ih
theorem it_ln (ps : List (Pr Int)) : ps.map Pr.it = (ps.map Pr.items).map lnD := by rw [List.map_map]; rfl
theorem lsheet_main (hr : r.ok) {cs : List (Card Int)} (hz : cs.length ≤ 3000) {μ1 : List Mo} (h1 : MR r μ.length (begR r) μ1) (g1 : Gr μ μ1) : ∃ μ', fin (exs (dropS 1 B__law_sheet) [.d r.d, .d (.tup (cs.map Card.d)), .d (mD r μ.length), .d (.lst []), .un, .un] μ1) = some (.ok (.lst ((sheetR r cs).map lnD)), μ') ∧ Gr μ μ' := by
  obtain ⟨a', μ2, ih, ih2, l2, o2⟩ := mr_loop hr (Nat.le_refl μ.length) cs [] (begR r) μ1 (.d r.d) (.d (.tup (cs.map Card.d))) .un .un h1 begR_ok (by simp; omega)
  obtain ⟨f1, f2⟩ := fedR_ok hr cs (begR r : Sd Int × Sd Int) begR_ok
  obtain ⟨μ3, e3, l3, o3⟩ := alast_ok hr ih2 f1 (Nat.le_refl μ.length)
  have f3 := endR_len hr f1
  have z1 : (fedR r (begR r : Sd Int × Sd Int) cs).2.length + (endR r (fedR r (begR r : Sd Int × Sd Int) cs).1).length ≤ 16777216 := by omega
  have hs : (sheetR r cs).map lnD = ((fedR r (begR r : Sd Int × Sd Int) cs).2.map Pr.it) ++ ((endR r (fedR r (begR r : Sd Int × Sd Int) cs).1).map Pr.it) := by
    rw [sheetR, allR, ← it_ln, List.map_append]
  rw [hs]
  refine ⟨μ3, ?_, ⟨by rw [l3, l2]; exact g1.le, fun m hm => ((o3 m hm).trans (o2 m hm)).trans (g1.old m hm)⟩⟩
  clear ih2 f1 f2 f3 hs h1 g1 o2 o3 l2 l3
  generalize endR r (fedR r (begR r : Sd Int × Sd Int) cs).1 = P1 at *
  generalize (fedR r (begR r : Sd Int × Sd Int) cs).2 = P2 at *
  simp at ih
  simp [dropS, B__law_sheet, x_kfor, ih, e3, szL, z1]
theorem comp_cons {tg : Tg} {keep elt : List Sl → List Mo → RM D} {δ δ1 : List Sl} {x d : D} {xs acc : List D} {μ μ1 μ2 : List Mo} (p : tg.put x δ = some δ1) (k : keep δ1 μ = some (.ok (.bl true), μ1)) (e : elt δ1 μ1 = some (.ok d, μ2)) (hz : acc.length < sizeLine) : compL tg keep elt δ (x :: xs) acc μ = compL tg keep elt δ xs (acc ++ [d]) μ2 := by
  simp [compL, p, k, noE, e]
  exact fun h => absurd hz (by omega)
theorem comp_nil {tg : Tg} {keep elt : List Sl → List Mo → RM D} {δ : List Sl} {acc : List D} {μ : List Mo} : compL tg keep elt δ [] acc μ = some (.ok (.lst acc), μ) := by simp [compL, retR]
theorem lsheet_ok (hr : r.ok) {cs : List (Card Int)} (hz : cs.length ≤ 3000) : ∃ μ', F_law_sheet [r.d, .tup (cs.map Card.d)] μ = some (.ok (.lst ((sheetR r cs).map lnD)), μ') ∧ Gr μ μ' := by
  cases r with
  | one a =>
    obtain ⟨μ1, e1, h1, g1, l1⟩ := fresh_ok (μ := μ) (b := a) hr
    obtain ⟨μ', m1, m2⟩ := lsheet_main (r := .one a) (μ := μ) (μ1 := μ1) hr hz h1 g1
    refine ⟨μ', ?_, m2⟩
    rw [← m1]
    have hc : compL (.name 5) (ev (.con (.bl true))) (ev (.call F_law_fresh (.cons (.var 5) .nil))) [.d (.tup [a.d]), .d (.tup (cs.map Card.d)), .un, .un, .un, .un] [a.d] [] μ = some (.ok (.lst [.obj (μ.length + 2)]), μ1) := by
      rw [comp_cons (d := .obj (μ.length + 2)) (μ1 := μ) (μ2 := μ1) rfl (by simp) (by simp [e1]) (by rw [szL]; exact Nat.succ_pos _), comp_nil]
      rfl
    simp [F_law_sheet, B__law_sheet, go, Row.d, kcomp, wipeS, hc, szL]
    simp [dropS, mD, Row.d]
  | two a b =>
    obtain ⟨ha, hb, _⟩ := hr
    obtain ⟨μ1, e1, h1, g1, l1⟩ := fresh_ok (μ := μ) ha
    obtain ⟨μ2, e2, h2, g2, l2⟩ := fresh_ok (μ := μ1) hb
    have hh : MR (.two a b) μ.length (begR (.two a b)) μ2 := by
      rw [l1] at h2
      refine ⟨⟨?_, ?_, ?_⟩, h2⟩
      · rw [g2.old _ (by omega)]; exact h1.d
      · rw [g2.old _ (by omega)]; exact h1.c
      · rw [g2.old _ (by omega)]; exact h1.s
    obtain ⟨μ', m1, m2⟩ := lsheet_main (r := .two a b) (μ := μ) (μ1 := μ2) ⟨ha, hb, by assumption⟩ hz hh (g1.trans g2)
    refine ⟨μ', ?_, m2⟩
    rw [← m1]
    rw [l1] at e2
    have hc : compL (.name 5) (ev (.con (.bl true))) (ev (.call F_law_fresh (.cons (.var 5) .nil))) [.d (.tup [a.d, b.d]), .d (.tup (cs.map Card.d)), .un, .un, .un, .un] [a.d, b.d] [] μ = some (.ok (.lst [.obj (μ.length + 2), .obj (μ.length + 3 + 2)]), μ2) := by
      rw [comp_cons (d := .obj (μ.length + 2)) (μ1 := μ) (μ2 := μ1) rfl (by simp) (by simp [e1]) (by rw [szL]; exact Nat.succ_pos _), comp_cons (d := .obj (μ.length + 3 + 2)) (μ1 := μ1) (μ2 := μ2) rfl (by simp) (by simp [e2]) (by rw [szL]; show 1 < _; omega), comp_nil]
      rfl
    simp [F_law_sheet, B__law_sheet, go, Row.d, kcomp, wipeS, hc, szL]
    simp [dropS, mD, Row.d]
end
end Mm
set_option Elab.async false
set_option linter.all false
set_option maxRecDepth 100000
set_option maxHeartbeats 4000000
/-! Dka: decks and rows that are, and that are none; decks drawn. -/
namespace Mm
open PySem L2 Mi Pg Ev Dr
/-- keys that do not fall -/
def kle (a b : Key) : Prop := a.1 < b.1 ∨ (a.1 = b.1 ∧ a.2 ≤ b.2)
structure Card.ok (c : Card Int) : Prop where
  j0 : 0 ≤ c.k.1
  j1 : c.k.1 ≤ 1000000000
  n0 : 0 ≤ c.k.2
  n1 : c.k.2 ≤ 1000000000
  x0 : -1000000000000000000000000000000 ≤ c.x
  x1 : c.x ≤ 1000000000000000000000000000000
  y0 : -1000000000000000000000000000000 ≤ c.y
  y1 : c.y ≤ 1000000000000000000000000000000
section
variable {μ : List Mo}
/-- a comprehension with a test -/
theorem comp_keep {α : Type} {p : α → Bool} {f g : α → D} {tg : Tg} {keep elt : List Sl → List Mo → RM D} {δ : List Sl} : ∀ (xs : List α) (acc : List D), acc.length + xs.length ≤ sizeLine →
    (∀ x ∈ xs, ∃ δ1, tg.put (f x) δ = some δ1 ∧ keep δ1 μ = some (.ok (.bl (p x)), μ) ∧ (p x = true → elt δ1 μ = some (.ok (g x), μ))) → compL tg keep elt δ (xs.map f) acc μ = some (.ok (.lst (acc ++ (xs.filter p).map g)), μ)
  | [], acc, _, _ => by simp [compL, retR]
  | x :: xs, acc, hz, h => by
    obtain ⟨δ1, q, k, e⟩ := h x List.mem_cons_self
    have hz2 : acc.length < sizeLine := by simp at hz; omega
    cases hp : p x with
    | true =>
      rw [hp] at k
      rw [List.map_cons, comp_cons q k (e hp) hz2, comp_keep xs (acc ++ [g x]) (by simp at hz ⊢; omega) fun y hy => h y (List.mem_cons_of_mem _ hy)]
      simp [hp]
    | false =>
      rw [hp] at k
      simp [compL, q, k, noE, comp_keep xs acc (by simp at hz; omega) fun y hy => h y (List.mem_cons_of_mem _ hy), hp]
end
end Mm
set_option Elab.async false
set_option linter.all false
set_option maxRecDepth 100000
set_option maxHeartbeats 4000000
/-! Dkb: decks drawn. -/
namespace Mm
open PySem L2 Mi Pg Ev Dr
/-- what the loop keeps -/
structure PackI (B : Int) (cs : List (Card Int)) (j m : Int) : Prop where
  all : ∀ c ∈ cs, c.ok
  asc : (cs.map Card.k).Pairwise kle
  top : ∀ c ∈ cs, kle c.k (j, m)
  j0 : 0 ≤ j
  j1 : j ≤ B
  m0 : 0 ≤ m
  m1 : m ≤ B
theorem kle_trans {a b c : Key} (h : kle a b) (g : kle b c) : kle a c := by
  unfold kle at *; omega
theorem PackI.up {B B' : Int} {cs : List (Card Int)} {j m j' m' : Int} (h : PackI B cs j m) (k : kle (j, m) (j', m')) (j0 : 0 ≤ j') (j1 : j' ≤ B') (m0 : 0 ≤ m') (m1 : m' ≤ B') : PackI B' cs j' m' :=
  ⟨h.all, h.asc, fun c hc => kle_trans (h.top c hc) k, j0, j1, m0, m1⟩
theorem PackI.push {B : Int} {cs : List (Card Int)} {j m : Int} (h : PackI B cs j m) (hB : B ≤ 1000000) {x y : Int} {b : Bool} (x0 : -1000000000000000000000000000000 ≤ x) (x1 : x ≤ 1000000000000000000000000000000) (y0 : -1000000000000000000000000000000 ≤ y) (y1 : y ≤ 1000000000000000000000000000000) : PackI B (cs ++ [⟨(j, m), b, x, y⟩]) j m := by
  have h1 := h.j1
  have h2 := h.m1
  refine ⟨fun c hc => ?_, ?_, fun c hc => ?_, h.j0, h.j1, h.m0, h.m1⟩
  · rcases List.mem_append.mp hc with hc | hc
    · exact h.all c hc
    · simp at hc
      subst hc
      exact ⟨h.j0, by show j ≤ _; omega, h.m0, by show m ≤ _; omega, x0, x1, y0, y1⟩
  · rw [List.map_append, List.pairwise_append]
    refine ⟨h.asc, by simp, fun a ha b hb => ?_⟩
    simp at hb
    subst hb
    obtain ⟨c, hc, rfl⟩ := List.mem_map.mp ha
    exact h.top c hc
  · rcases List.mem_append.mp hc with hc | hc
    · exact h.top c hc
    · simp at hc
      subst hc
      exact .inr ⟨rfl, Int.le_refl _⟩
end Mm
set_option Elab.async false
set_option linter.all false
set_option maxRecDepth 100000
set_option maxHeartbeats 4000000
/-! Wrp: boards written by the program, and the law's lines. -/
namespace Dr
open PySem L2 Mi Pg Ev
section
variable {μ : List Mo} {nc ns : Nat}
theorem hd_1 (hc : nc ≤ 3) : addD μ (.str "board ") (.str (dg nc)) = some (.str ("board " ++ dg nc)) := by
  have : nc = 0 ∨ nc = 1 ∨ nc = 2 ∨ nc = 3 := by omega
  rcases this with rfl | rfl | rfl | rfl <;> kernel_rfl
theorem hd_2 (hc : nc ≤ 3) : addD μ (.str ("board " ++ dg nc)) (.str " ") = some (.str ("board " ++ dg nc ++ " ")) := by
  have : nc = 0 ∨ nc = 1 ∨ nc = 2 ∨ nc = 3 := by omega
  rcases this with rfl | rfl | rfl | rfl <;> kernel_rfl
theorem hd_3 (hc : nc ≤ 3) (hs : ns ≤ 2) : addD μ (.str ("board " ++ dg nc ++ " ")) (.str (dg ns)) = some (.str ("board " ++ dg nc ++ " " ++ dg ns)) := by
  have h1 : nc = 0 ∨ nc = 1 ∨ nc = 2 ∨ nc = 3 := by omega
  have h2 : ns = 0 ∨ ns = 1 ∨ ns = 2 := by omega
  rcases h1 with rfl | rfl | rfl | rfl <;> rcases h2 with rfl | rfl | rfl <;> kernel_rfl
theorem llines_ok {b : Board} (h : b.ok) : F_law_lines [b.d] μ = some (.ok (.lst (b.ls.map .str)), μ) := by
  have hc := h.c
  have hs := h.s
  have hl := h.l
  have e := comp_map (μ := μ) (f := Wire.d) (g := fun s => .str s.t) (tg := .name 1) (keep := ev (.con (.bl true))) (elt := ev (.call F_law_words (.cons (.var 1) .nil))) (δ := [.d b.d, .un]) (fun δ μ => by simp) b.ws [] (by rw [szL]; simp; omega) (fun p hp => ⟨_, rfl, by simp [lwords_ok (h.w p hp) hc hs]⟩)
  rw [List.nil_append] at e
  simp only [Board.d] at e
  have z : 1 + b.ws.length ≤ 16777216 := by omega
  simp [F_law_lines, B__law_lines, go, Board.d, str_int (μ := μ) (show b.nc < 2 ^ 63 by omega), str_int (μ := μ) (show b.ns < 2 ^ 63 by omega), hd_1 hc, hd_2 hc, hd_3 hc hs, szL, kcomp, wipeS, e, z, Board.ls, Board.hd]
end
end Dr
set_option Elab.async false
set_option linter.all false
set_option maxRecDepth 100000
set_option maxHeartbeats 4000000
/-! Wrr: texts of boards read. -/
namespace Dr
open PySem L2 Mi Pg Ev
/-! ### joined texts -/
theorem sjoin_len (y : Str) : ∀ ws : List Str, (Str.join y ws).length ≤ (ws.map (·.length)).sum + ws.length * y.length
  | [] => by simp [Str.join]; rfl
  | [w] => by simp [Str.join]
  | w :: v :: ws => by
    have ih := sjoin_len y (v :: ws)
    have e : (Str.join y (w :: v :: ws)).length = w.length + y.length + (Str.join y (v :: ws)).length := by
      show (w ++ y ++ Str.join y (v :: ws)).length = _
      simp [TL.len_tl, TL.tl_append]
      omega
    rw [e]
    simp [Nat.succ_mul] at ih ⊢
    omega
theorem sjoin_mem (y : Str) (c : Nat) (hy : c ∉ TL.tl y) : ∀ ws : List Str, (∀ w ∈ ws, c ∉ TL.tl w) → c ∉ TL.tl (Str.join y ws)
  | [], _ => by show c ∉ []; simp
  | [w], h => h w List.mem_cons_self
  | w :: v :: ws, h => by
    show c ∉ TL.tl (w ++ y ++ Str.join y (v :: ws))
    rw [TL.tl_append, TL.tl_append]
    simp only [List.mem_append]
    intro hh
    rcases hh with (hh | hh) | hh
    · exact h w List.mem_cons_self hh
    · exact hy hh
    · exact sjoin_mem y c hy (v :: ws) (fun z hz => h z (List.mem_cons_of_mem _ hz)) hh
theorem sok (z : Str) : PyData.strOk z = true ↔ ∀ c ∈ TL.tl z, c < 1114112 := by
  unfold PyData.strOk TL.tl
  rw [← Array.all_toList, List.all_eq_true]
  simp only [decide_eq_true_eq]
theorem wordly_32 {z : Str} (h : wordly z = true) : 32 ∉ TL.tl z := by
  unfold wordly at h
  simp only [Bool.and_eq_true, Bool.not_eq_true'] at h
  exact fun m => by
    have := List.contains_iff_mem.mpr m
    rw [h.1] at this
    cases this
theorem wordly_10 {z : Str} (h : wordly z = true) : 10 ∉ TL.tl z := by
  unfold wordly at h
  simp only [Bool.and_eq_true, Bool.not_eq_true'] at h
  exact fun m => by
    have := List.contains_iff_mem.mpr m
    rw [h.2.1] at this
    cases this
section
variable {μ : List Mo} {nc ns : Nat}
theorem wire_len {a : Wire} (h : a.ok nc ns) (hc : nc ≤ 3) (hs : ns ≤ 2) : a.t.length ≤ 49 := by
  have := wire_sum h hc hs
  unfold Wire.t
  rw [TL.join_eq]
  have l := sjoin_len " " a.ws
  have e : Str.length " " = 1 := by decide +kernel
  rw [e] at l
  omega
theorem wire_10 {a : Wire} (h : a.ok nc ns) (hc : nc ≤ 3) (hs : ns ≤ 2) : 10 ∉ TL.tl a.t := by
  unfold Wire.t
  rw [TL.join_eq]
  exact sjoin_mem " " 10 (by decide +kernel) a.ws fun z hz => wordly_10 ((wire_wordly h hc hs).2 z hz)
theorem wire_split {a : Wire} (h : a.ok nc ns) (hc : nc ≤ 3) (hs : ns ≤ 2) : Txt.split a.t " " = a.ws :=
  TL.split_join (s := 32) (S := []) (by decide +kernel) (by decide +kernel) (by simp [Wire.ws]) fun z hz => wordly_32 ((wire_wordly h hc hs).2 z hz)
theorem hd_facts (hc : nc ≤ 3) (hs : ns ≤ 2) : (("board " : Str) ++ dg nc ++ " " ++ dg ns).length ≤ 20 ∧ 10 ∉ TL.tl (("board " : Str) ++ dg nc ++ " " ++ dg ns) ∧ Txt.split (("board " : Str) ++ dg nc ++ " " ++ dg ns) " " = [("board" : Str), dg nc, dg ns] := by
  have h1 : nc = 0 ∨ nc = 1 ∨ nc = 2 ∨ nc = 3 := by omega
  have h2 : ns = 0 ∨ ns = 1 ∨ ns = 2 := by omega
  rcases h1 with rfl | rfl | rfl | rfl <;> rcases h2 with rfl | rfl | rfl <;> decide +kernel
theorem ls_facts {b : Board} (h : b.ok) : b.ls.length ≤ 9 ∧ ∀ z ∈ b.ls, z.length ≤ 49 ∧ 10 ∉ TL.tl z := by
  obtain ⟨h1, h2, _⟩ := hd_facts h.c h.s
  refine ⟨by simp [Board.ls]; exact h.l, fun z hz => ?_⟩
  simp [Board.ls] at hz
  rcases hz with rfl | ⟨w, hw, rfl⟩
  · exact ⟨by unfold Board.hd; omega, h2⟩
  · exact ⟨wire_len (h.w w hw) h.c h.s, wire_10 (h.w w hw) h.c h.s⟩
theorem ls_sum {b : Board} (h : b.ok) : (b.ls.map (·.length)).sum + b.ls.length * 1 ≤ 450 := by
  obtain ⟨l, k⟩ := ls_facts h
  have := sum_le fun z hz => (k z hz).1
  omega
theorem board_split {b : Board} (h : b.ok) : Txt.split b.t "\n" = b.ls :=
  TL.split_join (s := 10) (S := []) (by decide +kernel) (by decide +kernel) (by simp [Board.ls]) fun z hz => ((ls_facts h).2 z hz).2
theorem board_len {b : Board} (h : b.ok) : b.t.length ≤ 450 := by
  have := ls_sum h
  unfold Board.t
  rw [TL.join_eq]
  have l := sjoin_len "\n" b.ls
  have e : Str.length "\n" = 1 := by decide +kernel
  rw [e] at l
  omega
theorem lines_join {b : Board} (h : b.ok) : Bi.do .join μ [.str "\n", .lst (b.ls.map .str)] = some (.str b.t) := join_l (x := "\n") (by have := ls_sum h; show _ + _ * 1 ≤ _; omega)
end
end Dr
set_option Elab.async false
set_option linter.all false
set_option maxRecDepth 100000
set_option maxHeartbeats 4000000
/-! Wrs: texts of boards read back. -/
namespace Dr
open PySem L2 Mi Pg Ev
section
variable {μ : List Mo} {nc ns : Nat}
theorem part_dg {i : Nat} (h : i ≤ 3) : Fpart_of [.str (dg i)] μ = some (.ok (.int i), μ) := by
  have h1 : i = 0 ∨ i = 1 ∨ i = 2 ∨ i = 3 := by omega
  rcases h1 with rfl | rfl | rfl | rfl <;> kernel_rfl
theorem part_src {s : Src} {w : When} (h : s.ok nc w) (hc : nc ≤ 3) : Fpart_of [.str s.t] μ = some (.ok s.d, μ) := by
  cases s with
  | x => kernel_rfl
  | y => kernel_rfl
  | c i => exact part_dg (by have h : i < nc := h; omega)
theorem comp_read {wp : List (Str × D)} (h : ∀ p ∈ wp, Fpart_of [.str p.1] μ = some (.ok p.2, μ)) (hl : wp.length ≤ 100) {δ : List Sl} {i : Nat} (hi : i < δ.length) :
    compL (.name i) (ev (.con (.bl true))) (ev (.call Fpart_of (.cons (.var i) .nil))) δ (wp.map fun p => .str p.1) [] μ = some (.ok (.lst (wp.map (·.2))), μ) := by
  have := comp_map (μ := μ) (f := fun p : Str × D => .str p.1) (g := fun p => p.2) (tg := .name i) (keep := ev (.con (.bl true))) (elt := ev (.call Fpart_of (.cons (.var i) .nil))) (δ := δ) (fun δ μ => by simp) wp [] (by rw [szL]; simp; omega) (fun p hp => ⟨_, rfl, by
    have h5 : (δ.set i (.d (.str p.1)))[i]? = some (.d (.str p.1)) := by rw [List.getElem?_set_self hi]
    simp [h5, h p hp]⟩)
  rw [List.nil_append] at this
  exact this
theorem cut01 {α : Type} (x : α) (xs : List α) : cutL (x :: xs) none (some 1) = [x] := by
  unfold cutL
  have e : HT.sIx (x :: xs).length (x :: xs).length (some 1) = 1 := by
    have := HT.sIx_nat (x :: xs).length (x :: xs).length 1
    rw [show ((1 : Nat) : Int) = 1 from rfl] at this
    rw [this]; simp
  rw [e, HT.sIx_none]
  simp
theorem cut3 {α : Type} (x y z : α) (xs : List α) : cutL (x :: y :: z :: xs) (some 3) none = xs := by
  unfold cutL
  have e : HT.sIx (x :: y :: z :: xs).length 0 (some 3) = 3 := by
    have := HT.sIx_nat (x :: y :: z :: xs).length 0 3
    rw [show ((3 : Nat) : Int) = 3 from rfl] at this
    rw [this]; simp
  rw [e, HT.sIx_none]
  simp
theorem cut02 {α : Type} (x y : α) (xs : List α) : cutL (x :: y :: xs) none (some 2) = [x, y] := by
  unfold cutL
  have e : HT.sIx (x :: y :: xs).length (x :: y :: xs).length (some 2) = 2 := by
    have := HT.sIx_nat (x :: y :: xs).length (x :: y :: xs).length 2
    rw [show ((2 : Nat) : Int) = 2 from rfl] at this
    rw [this]; simp
  rw [e, HT.sIx_none]
  simp
theorem oo_add (l : Bool) : Op.do .in_ μ (.tup [.str (if l = true then "less" else "add")]) (.tup [.tup [.str "on"], .tup [.str "off"]]) = some (.bl false) := by cases l <;> kernel_rfl
theorem oo_cl : Op.do .in_ μ (.tup [.str "clear"]) (.tup [.tup [.str "on"], .tup [.str "off"]]) = some (.bl false) := by kernel_rfl
theorem oo_pr : Op.do .in_ μ (.tup [.str "print"]) (.tup [.tup [.str "on"], .tup [.str "off"]]) = some (.bl false) := by kernel_rfl
theorem oo_on (b : Bool) : Op.do .in_ μ (.tup [.str (if b = true then "on" else "off")]) (.tup [.tup [.str "on"], .tup [.str "off"]]) = some (.bl true) := by cases b <;> kernel_rfl
theorem eq_on (b : Bool) : eqD μ (.str (if b = true then "on" else "off")) (.str "on") = some b := by cases b <;> kernel_rfl
theorem tp_add (l : Bool) : eqD μ (.tup [.str (if l = true then "less" else "add")]) (.tup [.str "print"]) = some false := by cases l <;> kernel_rfl
theorem tp_cl : eqD μ (.tup [.str "clear"]) (.tup [.str "print"]) = some false := by kernel_rfl
theorem tp_pr : eqD μ (.tup [.str "print"]) (.tup [.str "print"]) = some true := by kernel_rfl
theorem p_al (l : Bool) : Fpart_of [.str (if l = true then "less" else "add")] μ = some (.ok (.str (if l = true then "less" else "add")), μ) := by cases l <;> kernel_rfl
theorem p_cl : Fpart_of [.str "clear"] μ = some (.ok (.str "clear"), μ) := by kernel_rfl
theorem p_pr : Fpart_of [.str "print"] μ = some (.ok (.str "print"), μ) := by kernel_rfl
theorem p_on (b : Bool) : Fpart_of [.str (if b = true then "on" else "off")] μ = some (.ok (.str (if b = true then "on" else "off")), μ) := by cases b <;> kernel_rfl
theorem aread_ok {a : Act} {w : When} (h : a.ok nc ns w) (hc : nc ≤ 3) (hs : ns ≤ 2) : Faction_of [.lst (a.ws.map .str)] μ = some (.ok a.d, μ) := by
  cases a with
  | add l s i =>
    obtain ⟨h1, h2⟩ : s.ok nc w ∧ i < nc := h
    have e := comp_read (μ := μ) (wp := [(if l = true then "less" else "add", .str (if l = true then "less" else "add")), (s.t, s.d), (dg i, .int i)]) (by
      intro p hp
      simp at hp
      rcases hp with rfl | rfl | rfl
      · exact p_al l
      · exact part_src h1 hc
      · exact part_dg (by omega)) (by simp) (δ := [.d (.lst ((Act.add l s i).ws.map .str)), .un, .un]) (i := 2) (by simp)
    simp [Act.ws] at e
    simp [Faction_of, B_action_of, go, Act.ws, kcomp, wipeS, e, cut01, cut1, szL, oo_add, tp_add, Act.d]
  | clear i =>
    have h2 : i < nc := h
    have e := comp_read (μ := μ) (wp := [("clear", .str "clear"), (dg i, .int i)]) (by
      intro p hp
      simp at hp
      rcases hp with rfl | rfl
      · exact p_cl
      · exact part_dg (by omega)) (by simp) (δ := [.d (.lst ((Act.clear i).ws.map .str)), .un, .un]) (i := 2) (by simp)
    simp [Act.ws] at e
    simp [Faction_of, B_action_of, go, Act.ws, kcomp, wipeS, e, cut01, cut1, szL, oo_cl, tp_cl, Act.d]
  | set i b =>
    have h2 : i < ns := h
    have e := comp_read (μ := μ) (wp := [(if b = true then "on" else "off", .str (if b = true then "on" else "off")), (dg i, .int i)]) (by
      intro p hp
      simp at hp
      rcases hp with rfl | rfl
      · exact p_on b
      · exact part_dg (by omega)) (by simp) (δ := [.d (.lst ((Act.set i b).ws.map .str)), .un, .un]) (i := 2) (by simp)
    simp [Act.ws] at e
    simp [Faction_of, B_action_of, go, Act.ws, kcomp, wipeS, e, cut01, cut1, szL, oo_on, eq_on, Act.d]
  | print ss =>
    obtain ⟨h1, h2, h3⟩ : 1 ≤ ss.length ∧ ss.length ≤ 3 ∧ ∀ s ∈ ss, s.ok nc w := h
    have e : compL (.name 2) (ev (.con (.bl true))) (ev (.call Fpart_of (.cons (.var 2) .nil))) [.d (.lst (D.str "print" :: ss.map (D.str ∘ Src.t))), .un, .un] (D.str "print" :: ss.map (D.str ∘ Src.t)) [] μ = some (.ok (.lst (.str "print" :: ss.map Src.d)), μ) := by
      have e := comp_read (μ := μ) (wp := ("print", .str "print") :: ss.map fun s => (s.t, s.d)) (by
        intro p hp
        simp at hp
        rcases hp with rfl | ⟨s, hs, rfl⟩
        · exact p_pr
        · exact part_src (h3 s hs) hc) (by simp; omega) (δ := [.d (.lst (D.str "print" :: ss.map (D.str ∘ Src.t))), .un, .un]) (i := 2) (by simp)
      simp only [List.map_cons, List.map_map] at e
      exact e
    simp [Faction_of, B_action_of, go, Act.ws, kcomp, wipeS, e, cut01, cut1, szL, oo_pr, tp_pr, Act.d]
theorem iu_add (l : Bool) : Op.do .in_ μ (.str (if l = true then "less" else "add")) (.tup [.str "if", .str "unless"]) = some (.bl false) := by cases l <;> kernel_rfl
theorem iu_cl : Op.do .in_ μ (.str "clear") (.tup [.str "if", .str "unless"]) = some (.bl false) := by kernel_rfl
theorem iu_pr : Op.do .in_ μ (.str "print") (.tup [.str "if", .str "unless"]) = some (.bl false) := by kernel_rfl
theorem iu_on (b : Bool) : Op.do .in_ μ (.str (if b = true then "on" else "off")) (.tup [.str "if", .str "unless"]) = some (.bl false) := by cases b <;> kernel_rfl
theorem iu_if (b : Bool) : Op.do .in_ μ (.str (if b = true then "if" else "unless")) (.tup [.str "if", .str "unless"]) = some (.bl true) := by cases b <;> kernel_rfl
theorem eq_if (b : Bool) : eqD μ (.str (if b = true then "if" else "unless")) (.str "if") = some b := by cases b <;> kernel_rfl
theorem act_first {a : Act} {w : When} (h : a.ok nc ns w) : ∃ z x zs, a.ws = z :: x :: zs ∧ ∀ μ, Op.do .in_ μ (.str z) (.tup [.str "if", .str "unless"]) = some (.bl false) := by
  cases a with
  | add l s i => exact ⟨_, _, _, rfl, fun μ => iu_add l⟩
  | clear i => exact ⟨_, _, _, rfl, fun μ => iu_cl⟩
  | set i b => exact ⟨_, _, _, rfl, fun μ => iu_on b⟩
  | print ss =>
    obtain ⟨h1, h2, h3⟩ : 1 ≤ ss.length ∧ ss.length ≤ 3 ∧ ∀ s ∈ ss, s.ok nc w := h
    match ss, h1 with
    | s :: ss, _ => exact ⟨_, _, _, rfl, fun μ => iu_pr⟩
theorem split_do {z y : Str} (h : z.length ≤ 1000) (hy : (y.length == 0) = false) : Bi.do .split μ [.str z, .str y] = some (.lst ((Txt.split z y).map .str)) := by
  show (if (!(y.length == 0) && decide (z.length + 2 ≤ sizeLine)) = true then some (D.lst ((Txt.split z y).map .str)) else none) = _
  rw [hy, szL, if_pos (by simp; omega)]
theorem wread_ok {a : Wire} (h : a.ok nc ns) (hc : nc ≤ 3) (hs : ns ≤ 2) : Fwire_of [.str a.t] μ = some (.ok a.d, μ) := by
  have hsp := split_do (μ := μ) (z := a.t) (y := " ") (by have := wire_len h hc hs; omega) (by decide +kernel)
  rw [wire_split h hc hs] at hsp
  obtain ⟨w, sw, a⟩ := a
  obtain ⟨h1, h2⟩ := h
  have h2 : a.ok nc ns w := h2
  have ha := aread_ok (μ := μ) h2 hc hs
  have hw := w.d_t
  rcases sw with _ | ⟨i, b⟩
  · obtain ⟨z, x, zs, ez, iz⟩ := act_first h2
    rw [ez] at ha
    simp [Wire.ws, swW, ez] at hsp ha
    have t3 : (2 : Int) < (zs.length : Int) + 1 + 1 + 1 := by omega
    simp [Fwire_of, B_wire_of, go, hsp, iz, t3, cut1, ha, szL, Wire.d, swD, hw]
  · have h1 : i < ns := h1 i b rfl
    obtain ⟨z, x, zs, ez, iz⟩ := act_first h2
    rw [ez] at ha
    simp [Wire.ws, swW, ez] at hsp ha
    have t5 : (2 : Int) < (zs.length : Int) + 1 + 1 + 1 + 1 + 1 := by omega
    simp [Fwire_of, B_wire_of, go, hsp, iu_if, t5, eq_if, cut3, ha, szL, Wire.d, swD, hw, part_dg (μ := μ) (show i ≤ 3 by omega)]
end
end Dr
set_option Elab.async false
set_option linter.all false
set_option maxRecDepth 100000
set_option maxHeartbeats 4000000
/-! Wru: boards read back. -/
namespace Dr
open PySem L2 Mi Pg Ev
section
variable {μ : List Mo} {nc ns : Nat}
theorem eq_bb : eqD μ (.str "board") (.str "board") = some true := by kernel_rfl
theorem head_ok (hc : nc ≤ 3) (hs : ns ≤ 2) : Fhead_of [.str (("board " : Str) ++ dg nc ++ " " ++ dg ns)] μ = some (.ok (.tup [.int nc, .int ns, .tup []]), μ) := by
  obtain ⟨h1, h2, h3⟩ := hd_facts hc hs
  have hsp := split_do (μ := μ) (z := ("board " : Str) ++ dg nc ++ " " ++ dg ns) (y := " ") (by omega) (by decide +kernel)
  rw [h3] at hsp
  have hb := board_ok (μ := μ) (b := ⟨nc, ns, []⟩) ⟨hc, hs, by simp, by simp⟩
  simp [Board.d] at hb
  simp at hsp
  simp [Fhead_of, B_head_of, go, hsp, eq_bb, szL, part_dg (μ := μ) hc, part_dg (μ := μ) (show ns ≤ 3 by omega), hb]
theorem enum_loop {nc ns : Nat} {r : D} : ∀ (xs : List D) (a b c d e f : Sl), (∀ x ∈ xs, ∃ (i : Int) (w : Wire), x = .tup [.int i, w.d] ∧ w.ok nc ns) →
    ∃ d' e', forL (.pair (.name 4) (.name 5)) (exs (.cons (.ite (.not_ (.call Fis_wire (.cons (.var 2) (.cons (.var 5) .nil)))) (.cons (.raisep "InvalidText" (.op .add (.var 4) (.con (.int (2))))) .nil) .nil) .nil)) xs [a, b, .d (.tup [.int nc, .int ns, r]), c, d, e, f] μ = some (.nx, [a, b, .d (.tup [.int nc, .int ns, r]), c, d', e', f], μ)
  | [], a, b, c, d, e, f, _ => ⟨d, e, by simp [forL]⟩
  | x :: xs, a, b, c, d, e, f, h => by
    obtain ⟨i, w, rfl, hw⟩ := h x List.mem_cons_self
    obtain ⟨d', e', ih⟩ := enum_loop (r := r) xs a b c (.d (.int i)) (.d w.d) f fun y hy => h y (List.mem_cons_of_mem _ hy)
    exact ⟨d', e', by simp [forL, wire_ok hw, ih]⟩
theorem enum_mem {ws : List Wire} (h : ∀ w ∈ ws, w.ok nc ns) : ∀ x ∈ enumD (ws.map Wire.d), ∃ (i : Int) (w : Wire), x = .tup [.int i, w.d] ∧ w.ok nc ns := by
  intro x hx
  unfold enumD at hx
  obtain ⟨k, hk, rfl⟩ := List.getElem_of_mem hx
  simp at hk
  refine ⟨k, ws[k], by simp, h _ (List.getElem_mem _)⟩
theorem read_ok {b : Board} (h : b.ok) : Fread_board [.str b.t] μ = some (.ok b.d, μ) := by
  have hc := h.c
  have hs := h.s
  have hl := h.l
  have hsp := split_do (μ := μ) (z := b.t) (y := "\n") (by have := board_len h; omega) (by decide +kernel)
  rw [board_split h] at hsp
  have hh := head_ok (μ := μ) hc hs
  have e := comp_map (μ := μ) (f := fun w : Wire => .str w.t) (g := Wire.d) (tg := .name 6) (keep := ev (.con (.bl true))) (elt := ev (.call Fwire_of (.cons (.var 6) .nil))) (δ := [.d (.str b.t), .d (.lst (b.ls.map .str)), .d (.tup [.int b.nc, .int b.ns, .tup []]), .un, .un, .un, .un]) (fun δ μ => by simp) b.ws [] (by rw [szL]; simp; omega) (fun p hp => ⟨_, rfl, by simp [wread_ok (h.w p hp) hc hs]⟩)
  rw [List.nil_append] at e
  obtain ⟨x, y, e2⟩ := enum_loop (μ := μ) (nc := b.nc) (ns := b.ns) (r := .tup []) (enumD (b.ws.map Wire.d)) (.d (.str b.t)) (.d (.lst (b.ls.map .str))) (.d (.tup (b.ws.map Wire.d))) .un .un .un (enum_mem h.w)
  have hl2 : decide ((8 : Int) < b.ws.length) = false := by simp; omega
  have e3 : enumK (.tup (b.ws.map Wire.d)) = some (enumD (b.ws.map Wire.d)) := rfl
  simp [Board.ls, Board.hd] at hsp e e2
  have e : compL (.name 6) (ev (.con (.bl true))) (ev (.call Fwire_of (.cons (.var 6) .nil))) [.d (.str b.t), .d (.lst (.str (("board " : Str) ++ dg b.nc ++ " " ++ dg b.ns) :: b.ws.map (D.str ∘ Wire.t))), .d (.tup [.int b.nc, .int b.ns, .tup []]), .un, .un, .un, .un] (b.ws.map (D.str ∘ Wire.t)) [] μ = some (.ok (.lst (b.ws.map Wire.d)), μ) := e
  simp [Fread_board, B_read_board, go, hsp, hh, cut1, cut02, kcomp, wipeS, e, e3, x_kfor, e2, hl2, szL, Board.d]
end
end Dr
set_option Elab.async false
set_option linter.all false
set_option maxRecDepth 100000
set_option maxHeartbeats 4000000
/-! Wrv: what draws come from. -/
namespace Dr
open PySem L2 Mi Pg Ev
section
variable {μ : List Mo}
theorem pow18 : Op.do .pow μ (.int 10) (.int 18) = some (.int 1000000000000000000) := by kernel_rfl
theorem mul_s {i j : Int} (h : small64 j = true) : mulD (.int i) (.int j) = some (.int (i * j)) := by
  show (if mulOk i j = true then _ else _) = _
  rw [if_pos (by unfold mulOk; rw [h]; simp)]
theorem mul_t {i j : Int} (h : small64 i = true) : mulD (.int i) (.int j) = some (.int (i * j)) := by
  show (if mulOk i j = true then _ else _) = _
  rw [if_pos (by unfold mulOk; rw [h]; simp)]
/-- a thing that comes anew -/
def VatNew (μ μ' : List Mo) : Prop := ∃ a b : Int, μ' = μ ++ [.lst [.int a, .int b]] ∧ 0 ≤ a ∧ 0 ≤ b ∧ b < 2 ^ 32
theorem vat_end {ns : List Int} {k : Nat} (hk : k ≤ 1000) {c : Int} (hc : 0 ≤ c) : ∃ μ', fin (exs (dropS 2 B__law_vat) [.d (.scr ns), .d (.int k), .d (.int c)] μ) = some (.ok (.obj μ.length), μ') ∧ VatNew μ μ' := by
  have s1 : small64 131071 = true := by decide
  have s2 : small64 8191 = true := by decide
  have hd : (0 : Int) < 2147483629 := by decide
  obtain ⟨b, hb⟩ : ∃ b, (c * 131071 + 8191 * k + 5) % 2147483629 = b := ⟨_, rfl⟩
  have b0 : 0 ≤ b := by rw [← hb]; exact Int.emod_nonneg _ (by decide)
  have b1 : b < 2147483629 := by rw [← hb]; exact Int.emod_lt_of_pos _ hd
  by_cases h : 1000000000000000000 ≤ c
  · refine ⟨_, ?_, c, b + 1, rfl, hc, by omega, by omega⟩
    simp [dropS, B__law_vat, pow18, h, mul_s s1, mul_t s2, hb, szL]
  · refine ⟨_, ?_, 0, b + 1, rfl, by omega, by omega, by omega⟩
    simp [dropS, B__law_vat, pow18, h, mul_s s1, mul_t s2, hb, szL]
theorem vat_spec {ns : List Int} {k : Nat} (hk : k ≤ 1000) : ∃ μ', F_law_vat [.scr ns, .int k] μ = some (.ok (.obj μ.length), μ') ∧ VatNew μ μ' := by
  have s1 : small64 7919 = true := by decide
  by_cases h : (k : Int) < ns.length
  · obtain ⟨z, _, hz⟩ := atI_of (xs := ns) (show (0 : Int) ≤ k by omega) h
    obtain ⟨μ', e, v⟩ := vat_end (μ := μ) (ns := ns) hk (c := if z < 0 then -z else z) (by split <;> omega)
    refine ⟨μ', ?_, v⟩
    rw [← e]
    simp [F_law_vat, B__law_vat, go, mul_t s1, h, hz]
    simp [dropS]
  · obtain ⟨μ', e, v⟩ := vat_end (μ := μ) (ns := ns) hk (c := 7919 * k + 43) (by omega)
    refine ⟨μ', ?_, v⟩
    rw [← e]
    simp [F_law_vat, B__law_vat, go, mul_t s1, h]
    simp [dropS]
theorem VatNew.vat {μ μ' : List Mo} (h : VatNew μ μ') : Vat μ' μ.length := by
  obtain ⟨a, b, rfl, h1, h2, h3⟩ := h
  exact ⟨a, b, by simp, h1, h2, h3⟩
end
end Dr
set_option Elab.async false
set_option linter.all false
set_option maxRecDepth 100000
set_option maxHeartbeats 4000000
/-! Mch: sheets, summaries, standings as the program returns them; forms of data. -/
namespace Mm
open PySem L2 Mi Pg Ev Dr
theorem oks_int (n : Nat) (l : List Int) : okNs n (l.map .int) = true := okNs_all fun x hx => by
  obtain ⟨i, _, rfl⟩ := List.mem_map.mp hx
  exact ok_int n i
theorem ok_ln (n : Nat) (l : List Int) : okN (n + 1) (lnD l) = true := by simp only [lnD, okN, oks_int]
theorem oks_ln (n : Nat) (ls : List (List Int)) : okNs (n + 1) (ls.map lnD) = true := okNs_all fun x hx => by
  obtain ⟨i, _, rfl⟩ := List.mem_map.mp hx
  exact ok_ln n i
theorem ok_sh (ls : List (List Int)) : okN 64 (.lst (ls.map lnD)) = true := by simp only [okN]; exact oks_ln 62 ls
end Mm
set_option Elab.async false
set_option linter.all false
set_option maxRecDepth 100000
set_option maxHeartbeats 4000000
/-! Dkc: near boards; the first line that is unlike. -/
namespace Mm
open PySem L2 Mi Pg Ev Dr
theorem eqbs_int : ∀ (a b : List Int), eqbs (a.map D.int) (b.map D.int) = decide (a = b)
  | [], [] => by simp [eqbs]
  | [], y :: ys => by simp [eqbs]
  | x :: xs, [] => by simp [eqbs]
  | x :: xs, y :: ys => by
    simp only [List.map_cons, eqbs, eqb, eqbs_int xs ys, List.cons.injEq, Bool.decide_and]
    rfl
theorem eqbs_ln : ∀ (a b : List (List Int)), eqbs (a.map lnD) (b.map lnD) = decide (a = b)
  | [], [] => by simp [eqbs]
  | [], y :: ys => by simp [eqbs]
  | x :: xs, [] => by simp [eqbs]
  | x :: xs, y :: ys => by
    simp only [List.map_cons, eqbs, eqb, lnD, eqbs_int x y, List.cons.injEq, Bool.decide_and]
    rw [eqbs_ln xs ys]
theorem cut_mid {α : Type} (xs : List α) (i j : Nat) : cutL xs (some (i : Int)) (some (j : Int)) = (xs.drop i).take (j - i) := by
  unfold cutL
  rw [HT.sIx_nat, HT.sIx_nat]
  rcases Nat.le_total i xs.length with h | h
  · rw [Nat.min_eq_left h]
    rcases Nat.le_total j xs.length with g | g
    · rw [Nat.min_eq_left g]
    · rw [Nat.min_eq_right g, List.take_of_length_le (by simp), List.take_of_length_le (by simp; omega)]
  · rw [Nat.min_eq_right h]; simp [List.drop_eq_nil_of_le h]
/-- the first place at which lists are unlike -/
def firstU {α : Type} [DecidableEq α] : List α → List α → Option Nat
  | [], [] => none
  | [], _ :: _ => some 0
  | _ :: _, [] => some 0
  | x :: xs, y :: ys => if x = y then (firstU xs ys).map (· + 1) else some 0
def onD : Option Nat → D
  | none => .non
  | some i => .int i
theorem firstU_none {α : Type} [DecidableEq α] : ∀ {a b : List α}, firstU a b = none ↔ a = b
  | [], [] => by simp [firstU]
  | [], y :: ys => by simp [firstU]
  | x :: xs, [] => by simp [firstU]
  | x :: xs, y :: ys => by
    have := firstU_none (a := xs) (b := ys)
    by_cases h : x = y
    · simp [firstU, h, this]
    · simp [firstU, h]
theorem firstU_some {α : Type} [DecidableEq α] : ∀ {a b : List α} {i : Nat}, firstU a b = some i → (∀ j, j < i → a[j]? = b[j]?) ∧ a[i]? ≠ b[i]? ∧ i ≤ a.length ∧ i ≤ b.length
  | [], [], i, h => by simp [firstU] at h
  | [], y :: ys, i, h => by
    simp [firstU] at h
    subst h
    simp
  | x :: xs, [], i, h => by
    simp [firstU] at h
    subst h
    simp
  | x :: xs, y :: ys, i, h => by
    by_cases e : x = y
    · simp [firstU, e] at h
      obtain ⟨k, hk, rfl⟩ := h
      obtain ⟨h1, h2, h3, h4⟩ := firstU_some hk
      refine ⟨fun j hj => ?_, by simpa using h2, by simp; omega, by simp; omega⟩
      cases j with
      | zero => simp [e]
      | succ j => simpa using h1 j (by omega)
    · simp [firstU, e] at h
      subst h
      simp [e]
section
variable {μ : List Mo}
theorem eq_lsts {a b : List (List Int)} : eqD μ (.lst (a.map lnD)) (.lst (b.map lnD)) = some (decide (a = b)) := by
  rw [eqD_ok (ok_sh a) (ok_sh b)]
  simp only [eqb, eqbs_ln]
theorem due_slices {a : List (List Int)} {i : Nat} : cutL (a.map lnD) (some (i : Int)) (some ((i : Int) + 1)) = (a[i]?.toList).map lnD := by
  have := cut_mid (a.map lnD) i (i + 1)
  rw [show ((i + 1 : Nat) : Int) = (i : Int) + 1 by omega] at this
  rw [this, show i + 1 - i = 1 by omega, ← List.map_drop, ← List.map_take]
  congr 1
  rcases Nat.lt_or_ge i a.length with h | h
  · rw [List.drop_eq_getElem_cons h, List.getElem?_eq_getElem h]; rfl
  · rw [List.drop_eq_nil_of_le h]; simp [List.getElem?_eq_none h]
def bodyDue : Ss := match B__law_due with
  | .cons _ (.cons (.for_ _ _ b) _) => b
  | _ => .nil
theorem due_loop {a b : List (List Int)} {s0 s1 s2 : Sl} : ∀ (k i : Nat) (s5 : Sl), (∀ j, j < i → a[j]? = b[j]?) →
    forL (.name 5) (exs bodyDue) ((List.range' i k).map fun (j : Nat) => D.int j) [s0, s1, s2, .d (.lst (a.map lnD)), .d (.lst (b.map lnD)), s5] μ =
      (match firstU a b with
      | none => some (.nx, [s0, s1, s2, .d (.lst (a.map lnD)), .d (.lst (b.map lnD)), if k = 0 then s5 else .d (.int (i + k - 1 : Nat))], μ)
      | some q => if q < i + k then some (.rt (.int q), [s0, s1, s2, .d (.lst (a.map lnD)), .d (.lst (b.map lnD)), .d (.int q)], μ) else some (.nx, [s0, s1, s2, .d (.lst (a.map lnD)), .d (.lst (b.map lnD)), if k = 0 then s5 else .d (.int (i + k - 1 : Nat))], μ))
  | 0, i, s5, h => by
    cases hf : firstU a b with
    | none => simp [forL]
    | some q =>
      obtain ⟨h1, h2, _⟩ := firstU_some hf
      have : ¬ q < i := fun z => h2 (h q z)
      simp [forL, this]
  | k + 1, i, s5, h => by
    rw [List.range'_succ, List.map_cons]
    have hq := eq_lsts (μ := μ) (a := a[i]?.toList) (b := b[i]?.toList)
    by_cases e : a[i]? = b[i]?
    · have ih := due_loop (a := a) (b := b) (s0 := s0) (s1 := s1) (s2 := s2) k (i + 1) (.d (.int i)) (fun j hj => by
        rcases Nat.lt_or_ge j i with g | g
        · exact h j g
        · rw [show j = i by omega]; exact e)
      have et : a[i]?.toList = b[i]?.toList := by rw [e]
      rw [decide_eq_true et] at hq
      have hs : exs bodyDue [s0, s1, s2, .d (.lst (a.map lnD)), .d (.lst (b.map lnD)), .d (.int i)] μ = some (.nx, [s0, s1, s2, .d (.lst (a.map lnD)), .d (.lst (b.map lnD)), .d (.int i)], μ) := by
        simp [bodyDue, B__law_due, due_slices, hq]
      simp only [forL, p_name, Option.bind_some, List.set_cons_succ, List.set_cons_zero, hs]
      rw [ih]
      cases hf : firstU a b with
      | none =>
        rcases Nat.eq_zero_or_pos k with rfl | hk
        · simp
        · simp [show k ≠ 0 by omega]
          try omega
      | some q =>
        simp only [show (q < i + 1 + k) = (q < i + (k + 1)) by rw [show i + 1 + k = i + (k + 1) by omega]]
        rcases Nat.eq_zero_or_pos k with rfl | hk
        · simp
        · simp [show k ≠ 0 by omega]
    · have et : ¬ a[i]?.toList = b[i]?.toList := by
        cases ha : a[i]? <;> cases hb : b[i]? <;> rw [ha, hb] at e <;> simp at e ⊢
        exact e
      rw [decide_eq_false et] at hq
      have hf : firstU a b = some i := by
        cases hf : firstU a b with
        | none => rw [firstU_none.mp hf] at e; exact absurd rfl e
        | some q =>
          obtain ⟨h1, h2, _⟩ := firstU_some hf
          have g1 : ¬ q < i := fun z => h2 (h q z)
          have g2 : ¬ i < q := fun z => e (h1 i z)
          rw [show q = i by omega]
      have hs : exs bodyDue [s0, s1, s2, .d (.lst (a.map lnD)), .d (.lst (b.map lnD)), .d (.int i)] μ = some (.rt (.int i), [s0, s1, s2, .d (.lst (a.map lnD)), .d (.lst (b.map lnD)), .d (.int i)], μ) := by
        simp [bodyDue, B__law_due, due_slices, hq]
      simp only [forL, p_name, Option.bind_some, List.set_cons_succ, List.set_cons_zero, hs, hf]
      rw [if_pos (by omega)]
theorem due_ok {one two : Row} (h1 : one.ok) (h2 : two.ok) {cs : List (Card Int)} (hz : cs.length ≤ 3000) : ∃ μ', F_law_due [one.d, two.d, .tup (cs.map Card.d)] μ = some (.ok (onD (firstU (sheetR one cs) (sheetR two cs))), μ') ∧ Gr μ μ' := by
  obtain ⟨μ1, e1, g1⟩ := lsheet_ok (μ := μ) h1 hz
  obtain ⟨μ2, e2, g2⟩ := lsheet_ok (μ := μ1) h2 hz
  have l1 := all_len h1 cs
  have l2 := all_len h2 cs
  have k1 : (sheetR one cs).length ≤ 1000000 := by simp [sheetR]; omega
  have k2 : (sheetR two cs).length ≤ 1000000 := by simp [sheetR]; omega
  refine ⟨μ2, ?_, g1.trans g2⟩
  generalize sheetR one cs = a at *
  generalize sheetR two cs = b at *
  have hl := due_loop (μ := μ2) (a := a) (b := b) (s0 := .d one.d) (s1 := .d two.d) (s2 := .d (.tup (cs.map Card.d))) (a.length + b.length) 0 .un (by simp)
  have hrg : rgD 0 ((a.length : Int) + b.length) = (List.range' 0 (a.length + b.length)).map fun (j : Nat) => D.int j := by
    unfold rgD
    rw [show ((a.length : Int) + b.length - 0).toNat = a.length + b.length by omega, List.range_eq_range']
    simp
  have hok : rgOk 0 ((a.length : Int) + b.length) = true := by unfold rgOk; simp; omega
  simp only [bodyDue, B__law_due] at hl
  cases hf : firstU a b with
  | none =>
    rw [hf] at hl
    simp at hl
    simp [F_law_due, B__law_due, go, e1, e2, szL, hrg, hok, x_kfor, hl, onD]
  | some q =>
    obtain ⟨_, h2, h3, h4⟩ := firstU_some hf
    have : q < 0 + (a.length + b.length) := by
      rcases Nat.lt_or_ge q (a.length + b.length) with h | h
      · omega
      · exfalso
        apply h2
        rw [List.getElem?_eq_none (by omega), List.getElem?_eq_none (by omega)]
    rw [hf] at hl
    simp only [if_pos this] at hl
    simp [F_law_due, B__law_due, go, e1, e2, szL, hrg, hok, x_kfor, hl, onD]
end
end Mm
set_option Elab.async false
set_option linter.all false
set_option maxRecDepth 100000
set_option maxHeartbeats 4000000
/-! Kva: any values: what the program's checks say of them. -/
namespace Kv
open PySem L2 Mi Pg Ev Dr Mm
section
variable {μ : List Mo} {i : Int} {b : Bool} {z : Str} {xs : List D}
@[simp] theorem is_n_tuple : Bi.do .isi μ [.non, .ty "tuple"] = some (.bl false) := nr rfl
@[simp] theorem is_n_int : Bi.do .isi μ [.non, .ty "int"] = some (.bl false) := nr rfl
@[simp] theorem is_n_bool : Bi.do .isi μ [.non, .ty "bool"] = some (.bl false) := nr rfl
@[simp] theorem is_n_str : Bi.do .isi μ [.non, .ty "str"] = some (.bl false) := nr rfl
@[simp] theorem is_n_list : Bi.do .isi μ [.non, .ty "list"] = some (.bl false) := nr rfl
@[simp] theorem is_b_tuple : Bi.do .isi μ [(.bl b), .ty "tuple"] = some (.bl false) := nr rfl
@[simp] theorem is_b_int : Bi.do .isi μ [(.bl b), .ty "int"] = some (.bl true) := nr rfl
@[simp] theorem is_b_bool : Bi.do .isi μ [(.bl b), .ty "bool"] = some (.bl true) := nr rfl
@[simp] theorem is_b_str : Bi.do .isi μ [(.bl b), .ty "str"] = some (.bl false) := nr rfl
@[simp] theorem is_b_list : Bi.do .isi μ [(.bl b), .ty "list"] = some (.bl false) := nr rfl
@[simp] theorem is_i_tuple : Bi.do .isi μ [(.int i), .ty "tuple"] = some (.bl false) := nr rfl
@[simp] theorem is_i_int : Bi.do .isi μ [(.int i), .ty "int"] = some (.bl true) := nr rfl
@[simp] theorem is_i_bool : Bi.do .isi μ [(.int i), .ty "bool"] = some (.bl false) := nr rfl
@[simp] theorem is_i_str : Bi.do .isi μ [(.int i), .ty "str"] = some (.bl false) := nr rfl
@[simp] theorem is_i_list : Bi.do .isi μ [(.int i), .ty "list"] = some (.bl false) := nr rfl
@[simp] theorem is_s_tuple : Bi.do .isi μ [(.str z), .ty "tuple"] = some (.bl false) := nr rfl
@[simp] theorem is_s_int : Bi.do .isi μ [(.str z), .ty "int"] = some (.bl false) := nr rfl
@[simp] theorem is_s_bool : Bi.do .isi μ [(.str z), .ty "bool"] = some (.bl false) := nr rfl
@[simp] theorem is_s_str : Bi.do .isi μ [(.str z), .ty "str"] = some (.bl true) := nr rfl
@[simp] theorem is_s_list : Bi.do .isi μ [(.str z), .ty "list"] = some (.bl false) := nr rfl
@[simp] theorem is_t_tuple : Bi.do .isi μ [(.tup xs), .ty "tuple"] = some (.bl true) := nr rfl
@[simp] theorem is_t_int : Bi.do .isi μ [(.tup xs), .ty "int"] = some (.bl false) := nr rfl
@[simp] theorem is_t_bool : Bi.do .isi μ [(.tup xs), .ty "bool"] = some (.bl false) := nr rfl
@[simp] theorem is_t_str : Bi.do .isi μ [(.tup xs), .ty "str"] = some (.bl false) := nr rfl
@[simp] theorem is_t_list : Bi.do .isi μ [(.tup xs), .ty "list"] = some (.bl false) := nr rfl
@[simp] theorem is_l_tuple : Bi.do .isi μ [(.lst xs), .ty "tuple"] = some (.bl false) := nr rfl
@[simp] theorem is_l_int : Bi.do .isi μ [(.lst xs), .ty "int"] = some (.bl false) := nr rfl
@[simp] theorem is_l_bool : Bi.do .isi μ [(.lst xs), .ty "bool"] = some (.bl false) := nr rfl
@[simp] theorem is_l_str : Bi.do .isi μ [(.lst xs), .ty "str"] = some (.bl false) := nr rfl
@[simp] theorem is_l_list : Bi.do .isi μ [(.lst xs), .ty "list"] = some (.bl true) := nr rfl
@[simp] theorem isn_n : isD .non .non = some true := nr rfl
@[simp] theorem isn_b : isD (.bl b) .non = some false := nr rfl
@[simp] theorem isn_i : isD (.int i) .non = some false := nr rfl
@[simp] theorem isn_s : isD (.str z) .non = some false := nr rfl
@[simp] theorem isn_l : isD (.lst xs) .non = some false := nr rfl
end
/-! ### what is what -/
def wholeB (lo hi : Int) : D → Bool
  | .int i => decide (lo ≤ i) && decide (i ≤ hi)
  | _ => false
def isBl : D → Bool
  | .bl _ => true
  | _ => false
def cardyB (w : Str) : Bool := w == "card" || w == "hole" || w == "plain"
def srcB (nc : Int) (w : Str) : D → Bool
  | .str z => (z == "x" || z == "y") && cardyB w
  | d => wholeB 0 (nc - 1) d
def printB (nc : Int) (w : Str) : D → Bool
  | .tup its => decide (1 ≤ its.length) && decide (its.length ≤ 3) && its.all (srcB nc w)
  | _ => false
def actB (nc ns : Int) (w : Str) : D → Bool
  | .tup [.str z, a] => if z == "clear" then wholeB 0 (nc - 1) a else if z == "print" then printB nc w a else false
  | .tup [.str z, a, b] => if z == "add" || z == "less" then srcB nc w a && wholeB 0 (nc - 1) b else if z == "set" then wholeB 0 (ns - 1) a && isBl b else false
  | _ => false
def timeB (w : Str) : Bool := w == "card" || w == "hole" || w == "plain" || w == "minor" || w == "major"
def swB (ns : Int) : D → Bool
  | .non => true
  | .tup [a, .bl _] => wholeB 0 (ns - 1) a
  | _ => false
def wireB (nc ns : Int) : D → Bool
  | .tup [.str w, s, a] => timeB w && (swB ns s && actB nc ns w a)
  | _ => false
def boardB : D → Bool
  | .tup [.int nc, .int ns, .tup ws] => wholeB 0 3 (.int nc) && wholeB 0 2 (.int ns) && decide (ws.length ≤ 8) && ws.all (wireB nc ns)
  | _ => false
def wsL : D → Nat
  | .tup [_, _, .tup ws] => ws.length
  | _ => 0
def rowB : D → Bool
  | .tup [a] => boardB a
  | .tup [a, b] => boardB a && boardB b && decide (wsL a + wsL b ≤ 8)
  | _ => false
/-! ### the program -/
section
variable {μ : List Mo} {n : Nat}
theorem whole_B {d : D} (h : okN n d = true) {lo hi : Int} : Fis_whole [d, .int lo, .int hi] μ = some (.ok (.bl (wholeB lo hi d)), μ) := by
  cases d with
  | int i =>
    by_cases h1 : lo ≤ i
    · simp [Fis_whole, B_is_whole, go, wholeB, h1]
    · simp [Fis_whole, B_is_whole, go, wholeB, h1]
  | ty _ => cases n <;> simp [okN] at h
  | glo _ => cases n <;> simp [okN] at h
  | obj _ => cases n <;> simp [okN] at h
  | scr _ => cases n <;> simp [okN] at h
  | _ => simp [Fis_whole, B_is_whole, go, wholeB]
theorem okS {z : Str} (h : okN n (.str z) = true) : PyData.strOk z = true := by cases n <;> simpa [okN] using h
theorem in_str {z : Str} (hz : PyData.strOk z = true) {ws : List Str} (hw : ∀ w ∈ ws, PyData.strOk w = true) : inD μ (.str z) (.tup (ws.map .str)) = some (ws.any fun w => z == w) := by
  rw [inD_t (ok_str z 64 hz) (okNs_all fun x hx => by
    obtain ⟨w, hw', rfl⟩ := List.mem_map.mp hx
    exact ok_str w 63 (hw w hw'))]
  congr 1
  rw [List.any_map]
  congr 1
  funext w
  show (w == z) = (z == w)
  exact BEq.comm
theorem in_strl {z : Str} (hz : PyData.strOk z = true) {ws : List Str} (hw : ∀ w ∈ ws, PyData.strOk w = true) : inD μ (.str z) (.lst (ws.map .str)) = some (ws.any fun w => z == w) := by
  rw [inD_l (ok_str z 64 hz) (okNs_all fun x hx => by
    obtain ⟨w, hw', rfl⟩ := List.mem_map.mp hx
    exact ok_str w 63 (hw w hw'))]
  congr 1
  rw [List.any_map]
  congr 1
  funext w
  show (w == z) = (z == w)
  exact BEq.comm
@[simp] theorem o_in {a c : D} : Op.do .in_ μ a c = (inD μ a c).map .bl := nr rfl
@[simp] theorem o_nin {a c : D} : Op.do .nin μ a c = (inD μ a c).map fun r => .bl (!r) := nr rfl
theorem src_B {d : D} (h : okN n d = true) {nc ns : Int} {r : D} {w : Str} (hw : timeB w = true) : Fis_source [.tup [.int nc, .int ns, r], .str w, d] μ = some (.ok (.bl (srcB nc w d)), μ) := by
  have hwk : PyData.strOk w = true ∧ inD μ (.str w) (.tup [.str "minor", .str "major"]) = some (!cardyB w) := by
    have hc : w = "card" ∨ w = "hole" ∨ w = "plain" ∨ w = "minor" ∨ w = "major" := by
      simp [timeB] at hw
      rcases hw with (((h | h) | h) | h) | h <;> simp [h]
    rcases hc with rfl | rfl | rfl | rfl | rfl <;> exact ⟨by decide +kernel, by kernel_rfl⟩
  have other : ∀ d : D, okN n d = true → (∀ z, d ≠ .str z) → Bi.do .isi μ [d, .ty "str"] = some (.bl false) → Fis_source [.tup [.int nc, .int ns, r], .str w, d] μ = some (.ok (.bl (wholeB 0 (nc - 1) d)), μ) := by
    intro d hd hn hi
    have := whole_B (μ := μ) hd (lo := 0) (hi := nc - 1)
    simp [Fis_source, B_is_source, go, hi, this]
  cases d with
  | str z =>
    have h1 := in_str (μ := μ) (okS h) (ws := ["x", "y"]) (by decide +kernel)
    simp at h1
    cases hx : (z == ("x" : Str) || z == ("y" : Str)) with
    | true =>
      simp at hx
      have h2 : inD μ (.str z) (.tup [.str "x", .str "y"]) = some true := by rw [h1]; simp [hx]
      simp [Fis_source, B_is_source, go, szL, h2, hwk.2, srcB, hx]
    | false =>
      simp at hx
      have h2 : inD μ (.str z) (.tup [.str "x", .str "y"]) = some false := by rw [h1]; simp [hx]
      simp [Fis_source, B_is_source, go, szL, h2, srcB, hx]
  | ty _ => cases n <;> simp [okN] at h
  | glo _ => cases n <;> simp [okN] at h
  | obj _ => cases n <;> simp [okN] at h
  | scr _ => cases n <;> simp [okN] at h
  | non => exact other _ h (by simp) (by simp)
  | bl _ => exact other _ h (by simp) (by simp)
  | int _ => exact other _ h (by simp) (by simp)
  | tup _ => exact other _ h (by simp) (by simp)
  | lst _ => exact other _ h (by simp) (by simp)
theorem okNs_mem {xs : List D} (h : okNs n xs = true) : ∀ x ∈ xs, okN n x = true := by
  intro x hx
  induction xs with
  | nil => cases hx
  | cons y ys ih =>
    simp only [okNs, Bool.and_eq_true] at h
    rcases List.mem_cons.mp hx with rfl | hx
    · exact h.1
    · exact ih h.2 hx
theorem ok_tup {n : Nat} {xs : List D} (h : okN n (.tup xs) = true) : ∃ m, n = m + 1 ∧ okNs m xs = true := by
  cases n with
  | zero => simp [okN] at h
  | succ m => exact ⟨m, rfl, by simpa [okN] using h⟩
/-- those of which a check says no -/
theorem comp_bad {xs : List D} {p : D → Bool} {i : Nat} {δ : List Sl} {c : E} (hl : xs.length ≤ 1000000) (hi : i < δ.length) (h : ∀ x ∈ xs, ev c (δ.set i (.d x)) μ = some (.ok (.bl (p x)), μ)) : compL (.name i) (ev (.not_ c)) (ev (.var i)) δ xs [] μ = some (.ok (.lst (xs.filter fun x => !p x)), μ) := by
  have := comp_keep (μ := μ) (p := fun x => !p x) (f := fun x : D => x) (g := fun x => x) (tg := .name i) (keep := ev (.not_ c)) (elt := ev (.var i)) (δ := δ) xs [] (by rw [szL]; simp; omega) (fun x hx => ⟨_, rfl, by simp [h x hx], fun _ => by
    have : (δ.set i (.d x))[i]? = some (.d x) := by rw [List.getElem?_set_self hi]
    simp [this]⟩)
  simpa using this
theorem filter_all {α : Type} {p : α → Bool} : ∀ xs : List α, (xs.filter fun x => !p x).isEmpty = xs.all p
  | [] => rfl
  | x :: xs => by
    cases h : p x with
    | true => simp [h, filter_all xs]
    | false => simp [h]
theorem okNs_filter {xs : List D} (h : okNs n xs = true) (p : D → Bool) : okNs n (xs.filter p) = true := okNs_all fun x hx => okNs_mem h x ((List.mem_filter.mp hx).1)
theorem eq_bad {xs : List D} {p : D → Bool} (hn : n ≤ 63) (h : okNs n xs = true) : eqD μ (.lst (xs.filter fun x => !p x)) (.lst []) = some (xs.all p) := by
  rw [eq_lnil (okNs_mono n 63 _ hn (okNs_filter h _)), filter_all]
theorem printing_B {d : D} (h : okN n d = true) (hn : n ≤ 63) {nc ns : Int} {r : D} {w : Str} (hw : timeB w = true) : Fis_printing [.tup [.int nc, .int ns, r], .str w, d] μ = some (.ok (.bl (printB nc w d)), μ) := by
  cases d with
  | ty _ => cases n <;> simp [okN] at h
  | glo _ => cases n <;> simp [okN] at h
  | obj _ => cases n <;> simp [okN] at h
  | scr _ => cases n <;> simp [okN] at h
  | tup its =>
    obtain ⟨m, rfl, ho⟩ := ok_tup h
    by_cases h1 : 1 ≤ its.length
    · by_cases h3 : its.length ≤ 3
      · have k1 : (1 : Int) ≤ its.length := by omega
        have k3 : (its.length : Int) ≤ 3 := by omega
        have e := comp_bad (μ := μ) (xs := its) (p := srcB nc w) (i := 3) (δ := [.d (.tup [.int nc, .int ns, r]), .d (.str w), .d (.tup its), .un]) (c := .call Fis_source (.cons (.var 0) (.cons (.var 1) (.cons (.var 3) .nil)))) (by omega) (by simp) (fun x hx => by
          simp [src_B (μ := μ) (okNs_mem ho x hx) hw])
        have e2 := eq_bad (μ := μ) (p := srcB nc w) (show m ≤ 63 by omega) ho
        simp [Fis_printing, B_is_printing, go, printB, k1, k3, h1, h3, kcomp, wipeS, e, szL, e2]
      · have k1 : (1 : Int) ≤ its.length := by omega
        have k3 : ¬ (its.length : Int) ≤ 3 := by omega
        simp [Fis_printing, B_is_printing, go, printB, k1, k3, h3]
    · have k1 : ¬ (1 : Int) ≤ its.length := by omega
      simp [Fis_printing, B_is_printing, go, printB, k1, h1]
  | _ => simp [Fis_printing, B_is_printing, go, printB]
end
end Kv
set_option Elab.async false
set_option linter.all false
set_option maxRecDepth 100000
set_option maxHeartbeats 4000000
/-! Kvb: any values: actions, wires, boards, rows by the program. -/
namespace Kv
open PySem L2 Mi Pg Ev Dr Mm
section
variable {μ : List Mo} {n : Nat}
theorem in_addless {z : Str} (hz : PyData.strOk z = true) : inD μ (.str z) (.tup [.str "add", .str "less"]) = some (z == ("add" : Str) || z == ("less" : Str)) := by
  have := in_str (μ := μ) hz (ws := ["add", "less"]) (by decide +kernel)
  simpa using this
theorem tup_ne {x : D} {xs : List D} {m : Nat} (hm : m ≤ 63) (h : okNs m (x :: xs) = true) : eqD μ (.tup (x :: xs)) (.tup []) = some false := by
  rw [eq_tnil (okNs_mono m 63 _ hm h)]; rfl
theorem isbl {d : D} (h : okN n d = true) : Bi.do .isi μ [d, .ty "bool"] = some (.bl (isBl d)) := by
  cases d <;> first | (simp [isBl]; done) | (cases n <;> simp [okN] at h)
theorem action_B {d : D} (h : okN n d = true) (hn : n ≤ 63) {nc ns : Int} {r : D} {w : Str} (hw : timeB w = true) : Fis_action [.tup [.int nc, .int ns, r], .str w, d] μ = some (.ok (.bl (actB nc ns w d)), μ) := by
  cases d with
  | ty _ => cases n <;> simp [okN] at h
  | glo _ => cases n <;> simp [okN] at h
  | obj _ => cases n <;> simp [okN] at h
  | scr _ => cases n <;> simp [okN] at h
  | tup ds =>
    obtain ⟨m, rfl, ho⟩ := ok_tup h
    match ds, ho with
    | [], _ => simp [Fis_action, B_is_action, go, actB, szL, eq_tnil (μ := μ) (xs := []) rfl]
    | x :: ds, ho =>
      have hne := tup_ne (μ := μ) (show m ≤ 63 by omega) ho
      have hox := okNs_mem ho x List.mem_cons_self
      have hs : ∀ z, x = .str z → Fis_action [.tup [.int nc, .int ns, r], .str w, .tup (x :: ds)] μ = some (.ok (.bl (actB nc ns w (.tup (x :: ds)))), μ) := by
        rintro z rfl
        have hz := okS hox
        have e1 := in_addless (μ := μ) hz
        have e2 := eq_str (μ := μ) hz (w := "clear") (by decide +kernel)
        have e3 := eq_str (μ := μ) hz (w := "set") (by decide +kernel)
        have e4 := eq_str (μ := μ) hz (w := "print") (by decide +kernel)
        cases c1 : (z == ("add" : Str) || z == ("less" : Str)) with
        | true =>
          rw [c1] at e1
          match ds, ho with
          | [a, b], ho =>
            have ha := src_B (μ := μ) (okNs_mem ho a (by simp)) (nc := nc) (ns := ns) (r := r) hw
            have hb := whole_B (μ := μ) (okNs_mem ho b (by simp)) (lo := 0) (hi := nc - 1)
            cases hq : srcB nc w a with
            | true =>
              rw [hq] at ha
              simp [Fis_action, B_is_action, go, szL, hne, e1, ha, hb, actB, c1, hq]
            | false =>
              rw [hq] at ha
              simp [Fis_action, B_is_action, go, szL, hne, e1, ha, actB, c1, hq]
          | [], ho => simp [Fis_action, B_is_action, go, szL, hne, e1, actB]
          | [a], ho =>
            have hcl : (z == ("clear" : Str)) = false ∧ (z == ("print" : Str)) = false := by
              simp at c1
              rcases c1 with rfl | rfl <;> exact ⟨by decide +kernel, by decide +kernel⟩
            simp [Fis_action, B_is_action, go, szL, hne, e1, actB, hcl.1, hcl.2]
          | a :: b :: c :: l, ho =>
            have : ¬ ((l.length : Int) + 1 + 1 + 1 + 1 = 3) := by omega
            simp [Fis_action, B_is_action, go, szL, hne, e1, actB, this]
        | false =>
          rw [c1] at e1
          cases c2 : (z == ("clear" : Str)) with
          | true =>
            rw [c2] at e2
            match ds, ho with
            | [a], ho =>
              have hb := whole_B (μ := μ) (okNs_mem ho a (by simp)) (lo := 0) (hi := nc - 1)
              simp [Fis_action, B_is_action, go, szL, hne, e1, e2, hb, actB, c2]
            | [], ho => simp [Fis_action, B_is_action, go, szL, hne, e1, e2, actB]
            | [a, b], ho =>
              have hst : (z == ("set" : Str)) = false := by
                simp at c2
                subst c2
                decide +kernel
              simp [Fis_action, B_is_action, go, szL, hne, e1, e2, actB, c1, hst]
            | a :: b :: c :: l, ho =>
              have : ¬ ((l.length : Int) + 1 + 1 + 1 + 1 = 2) := by omega
              simp [Fis_action, B_is_action, go, szL, hne, e1, e2, actB, this]
          | false =>
            rw [c2] at e2
            cases c3 : (z == ("set" : Str)) with
            | true =>
              rw [c3] at e3
              have hpr : (z == ("print" : Str)) = false := by
                simp at c3
                subst c3
                decide +kernel
              match ds, ho with
              | [a, b], ho =>
                have ha := whole_B (μ := μ) (okNs_mem ho a (by simp)) (lo := 0) (hi := ns - 1)
                have hbb := isbl (μ := μ) (okNs_mem ho b (by simp))
                cases hq : wholeB 0 (ns - 1) a with
                | true =>
                  rw [hq] at ha
                  simp [Fis_action, B_is_action, go, szL, hne, e1, e2, e3, ha, hbb, actB, c1, c3, hq]
                | false =>
                  rw [hq] at ha
                  simp [Fis_action, B_is_action, go, szL, hne, e1, e2, e3, ha, actB, c1, c3, hq]
              | [], ho => simp [Fis_action, B_is_action, go, szL, hne, e1, e2, e3, actB]
              | [a], ho => simp [Fis_action, B_is_action, go, szL, hne, e1, e2, e3, actB, c2, hpr]
              | a :: b :: c :: l, ho =>
                have : ¬ ((l.length : Int) + 1 + 1 + 1 + 1 = 3) := by omega
                simp [Fis_action, B_is_action, go, szL, hne, e1, e2, e3, actB, this]
            | false =>
              rw [c3] at e3
              cases c4 : (z == ("print" : Str)) with
              | true =>
                rw [c4] at e4
                match ds, ho with
                | [a], ho =>
                  have hp := printing_B (μ := μ) (okNs_mem ho a (by simp)) (by omega) (nc := nc) (ns := ns) (r := r) hw
                  simp [Fis_action, B_is_action, go, szL, hne, e1, e2, e3, e4, hp, actB, c2, c4]
                | [], ho => simp [Fis_action, B_is_action, go, szL, hne, e1, e2, e3, e4, actB]
                | [a, b], ho => simp [Fis_action, B_is_action, go, szL, hne, e1, e2, e3, e4, actB, c1, c3]
                | a :: b :: c :: l, ho =>
                  have : ¬ ((l.length : Int) + 1 + 1 + 1 + 1 = 2) := by omega
                  simp [Fis_action, B_is_action, go, szL, hne, e1, e2, e3, e4, actB, this]
              | false =>
                rw [c4] at e4
                match ds, ho with
                | [a], ho => simp [Fis_action, B_is_action, go, szL, hne, e1, e2, e3, e4, actB, c2, c4]
                | [], ho => simp [Fis_action, B_is_action, go, szL, hne, e1, e2, e3, e4, actB]
                | [a, b], ho => simp [Fis_action, B_is_action, go, szL, hne, e1, e2, e3, e4, actB, c1, c3]
                | a :: b :: c :: l, ho => simp [Fis_action, B_is_action, go, szL, hne, e1, e2, e3, e4, actB]
      cases x with
      | str z => exact hs z rfl
      | ty _ => cases m <;> simp [okN] at hox
      | glo _ => cases m <;> simp [okN] at hox
      | obj _ => cases m <;> simp [okN] at hox
      | scr _ => cases m <;> simp [okN] at hox
      | _ =>
        clear hs
        rcases ds with _ | ⟨a, _ | ⟨b, _ | ⟨c, l⟩⟩⟩ <;> simp [Fis_action, B_is_action, go, szL, hne, actB]
  | _ => simp [Fis_action, B_is_action, go, actB]
theorem word_B {d : D} (h : okN n d = true) : Fis_word [d, .tup [.str "card", .str "hole", .str "plain", .str "minor", .str "major"]] μ = some (.ok (.bl (match d with
    | .str w => timeB w
    | _ => false)), μ) := by
  cases d with
  | ty _ => cases n <;> simp [okN] at h
  | glo _ => cases n <;> simp [okN] at h
  | obj _ => cases n <;> simp [okN] at h
  | scr _ => cases n <;> simp [okN] at h
  | str z =>
    have := in_str (μ := μ) (okS h) (ws := ["card", "hole", "plain", "minor", "major"]) (by decide +kernel)
    simp at this
    simp [Fis_word, B_is_word, go, this, timeB, Bool.or_assoc]
  | _ => simp [Fis_word, B_is_word, go]
theorem wire_B {d : D} (h : okN n d = true) (hn : n ≤ 63) {nc ns : Int} {r : D} : Fis_wire [.tup [.int nc, .int ns, r], d] μ = some (.ok (.bl (wireB nc ns d)), μ) := by
  cases d with
  | ty _ => cases n <;> simp [okN] at h
  | glo _ => cases n <;> simp [okN] at h
  | obj _ => cases n <;> simp [okN] at h
  | scr _ => cases n <;> simp [okN] at h
  | tup ds =>
    obtain ⟨m, rfl, ho⟩ := ok_tup h
    match ds, ho with
    | [], _ => simp [Fis_wire, B_is_wire, go, wireB]
    | [x], _ => simp [Fis_wire, B_is_wire, go, wireB]
    | [x, y], _ => simp [Fis_wire, B_is_wire, go, wireB]
    | x :: y :: z :: u :: l, _ =>
      have : ¬ ((l.length : Int) + 1 + 1 + 1 + 1 = 3) := by omega
      simp [Fis_wire, B_is_wire, go, wireB, this]
    | [x, s, a], ho =>
      have hx := okNs_mem ho x (by simp)
      have hs := okNs_mem ho s (by simp)
      have ha := okNs_mem ho a (by simp)
      have hwd := word_B (μ := μ) hx
      cases x with
      | str w =>
        cases hw : timeB w with
        | false =>
          simp [hw] at hwd
          simp [Fis_wire, B_is_wire, go, wireB, hwd, hw]
        | true =>
          simp [hw] at hwd
          have hact := action_B (μ := μ) ha (by omega) (nc := nc) (ns := ns) (r := r) hw
          cases s with
          | ty _ => cases m <;> simp [okN] at hs
          | glo _ => cases m <;> simp [okN] at hs
          | obj _ => cases m <;> simp [okN] at hs
          | scr _ => cases m <;> simp [okN] at hs
          | non => simp [Fis_wire, B_is_wire, go, wireB, hwd, hw, swB, hact]
          | tup ss =>
            obtain ⟨m2, rfl, ho2⟩ := ok_tup hs
            match ss, ho2 with
            | [], _ => simp [Fis_wire, B_is_wire, go, wireB, hwd, swB]
            | [p], _ => simp [Fis_wire, B_is_wire, go, wireB, hwd, swB]
            | p :: q :: u :: l, _ =>
              have : ¬ ((l.length : Int) + 1 + 1 + 1 = 2) := by omega
              simp [Fis_wire, B_is_wire, go, wireB, hwd, swB, this]
            | [p, q], ho2 =>
              have hp := whole_B (μ := μ) (okNs_mem ho2 p (by simp)) (lo := 0) (hi := ns - 1)
              have hq := okNs_mem ho2 q (by simp)
              cases q with
              | bl b =>
                cases hpw : wholeB 0 (ns - 1) p with
                | true =>
                  rw [hpw] at hp
                  simp [Fis_wire, B_is_wire, go, wireB, hwd, swB, hp, hpw, hact, hw]
                | false =>
                  rw [hpw] at hp
                  simp [Fis_wire, B_is_wire, go, wireB, hwd, swB, hp, hpw]
              | ty _ => cases m2 <;> simp [okN] at hq
              | glo _ => cases m2 <;> simp [okN] at hq
              | obj _ => cases m2 <;> simp [okN] at hq
              | scr _ => cases m2 <;> simp [okN] at hq
              | _ => simp [Fis_wire, B_is_wire, go, wireB, hwd, swB]
          | _ => simp [Fis_wire, B_is_wire, go, wireB, hwd, swB]
      | ty _ => cases m <;> simp [okN] at hx
      | glo _ => cases m <;> simp [okN] at hx
      | obj _ => cases m <;> simp [okN] at hx
      | scr _ => cases m <;> simp [okN] at hx
      | _ => simp at hwd; simp [Fis_wire, B_is_wire, go, wireB, hwd]
  | _ => simp [Fis_wire, B_is_wire, go, wireB]
end
end Kv
set_option Elab.async false
set_option linter.all false
set_option maxRecDepth 100000
set_option maxHeartbeats 4000000
/-! Kvc: any values: boards, rows, cards, decks, patterns by the program. -/
namespace Kv
open PySem L2 Mi Pg Ev Dr Mm
section
variable {μ : List Mo} {n : Nat}
theorem whole_int {d : D} {lo hi : Int} (h : wholeB lo hi d = true) : ∃ i, d = .int i ∧ lo ≤ i ∧ i ≤ hi := by
  cases d with
  | int i => simp [wholeB] at h; exact ⟨i, rfl, h.1, h.2⟩
  | _ => simp [wholeB] at h
theorem board_B {d : D} (h : okN n d = true) (hn : n ≤ 63) (hl : ∀ a b ws, d = .tup [a, b, .tup ws] → ws.length ≤ 1000000) : Fis_board [d] μ = some (.ok (.bl (boardB d)), μ) := by
  cases d with
  | ty _ => cases n <;> simp [okN] at h
  | glo _ => cases n <;> simp [okN] at h
  | obj _ => cases n <;> simp [okN] at h
  | scr _ => cases n <;> simp [okN] at h
  | tup ds =>
    obtain ⟨m, rfl, ho⟩ := ok_tup h
    match ds, ho with
    | [], _ => simp [Fis_board, B_is_board, go, boardB]
    | [x], _ => simp [Fis_board, B_is_board, go, boardB]
    | [x, y], _ => simp [Fis_board, B_is_board, go, boardB]
    | x :: y :: z :: u :: l, _ =>
      have : ¬ ((l.length : Int) + 1 + 1 + 1 + 1 = 3) := by omega
      simp [Fis_board, B_is_board, go, boardB, this]
    | [x, y, z], ho =>
      have hx := okNs_mem ho x (by simp)
      have hy := okNs_mem ho y (by simp)
      have hz := okNs_mem ho z (by simp)
      have ex := whole_B (μ := μ) hx (lo := 0) (hi := 3)
      have ey := whole_B (μ := μ) hy (lo := 0) (hi := 2)
      cases bx : wholeB 0 3 x with
      | false =>
        rw [bx] at ex
        have hb : boardB (.tup [x, y, z]) = false := by
          unfold boardB
          split
          · rename_i a b c e
            simp at e
            obtain ⟨rfl, _⟩ := e
            simp [bx]
          · rfl
        simp [Fis_board, B_is_board, go, ex, hb]
      | true =>
        rw [bx] at ex
        obtain ⟨nc, rfl, _⟩ := whole_int bx
        cases bY : wholeB 0 2 y with
        | false =>
          rw [bY] at ey
          have hb : boardB (.tup [.int nc, y, z]) = false := by
            unfold boardB
            split
            · rename_i a b c e
              simp at e
              obtain ⟨rfl, rfl, _⟩ := e
              simp [bY]
            · rfl
          simp [Fis_board, B_is_board, go, ex, ey, hb]
        | true =>
          rw [bY] at ey
          obtain ⟨ns, rfl, _⟩ := whole_int bY
          cases z with
          | ty _ => cases m <;> simp [okN] at hz
          | glo _ => cases m <;> simp [okN] at hz
          | obj _ => cases m <;> simp [okN] at hz
          | scr _ => cases m <;> simp [okN] at hz
          | tup ws =>
            obtain ⟨m2, rfl, ho2⟩ := ok_tup hz
            by_cases h8 : ws.length ≤ 8
            · have k8 : ¬ (8 : Int) < ws.length := by omega
              have e := comp_bad (μ := μ) (xs := ws) (p := wireB nc ns) (i := 1) (δ := [.d (.tup [.int nc, .int ns, .tup ws]), .un]) (c := .call Fis_wire (.cons (.var 0) (.cons (.var 1) .nil))) (by omega) (by simp) (fun x hx => by
                simp [wire_B (μ := μ) (okNs_mem ho2 x hx) (by omega)])
              have e2 := eq_bad (μ := μ) (p := wireB nc ns) (show m2 ≤ 63 by omega) ho2
              simp [Fis_board, B_is_board, go, ex, ey, k8, kcomp, wipeS, e, szL, e2, boardB, bx, bY, h8]
            · have k8 : (8 : Int) < ws.length := by omega
              simp [Fis_board, B_is_board, go, ex, ey, k8, boardB, h8]
          | _ => simp [Fis_board, B_is_board, go, ex, ey, boardB]
  | _ => simp [Fis_board, B_is_board, go, boardB]
end
end Kv
set_option Elab.async false
set_option linter.all false
set_option maxRecDepth 100000
set_option maxHeartbeats 4000000
/-! Kvd: any values: what the law's checks say of them. -/
namespace Kv
open PySem L2 Mi Pg Ev Dr Mm
section
variable {μ : List Mo} {n : Nat}
theorem lwhole_B {d : D} (h : okN n d = true) {lo hi : Int} : F_law_is_whole [d, .int lo, .int hi] μ = some (.ok (.bl (wholeB lo hi d)), μ) := by
  cases d with
  | int i =>
    by_cases h1 : lo ≤ i
    · simp [F_law_is_whole, B__law_is_whole, go, wholeB, h1]
    · simp [F_law_is_whole, B__law_is_whole, go, wholeB, h1]
  | ty _ => cases n <;> simp [okN] at h
  | glo _ => cases n <;> simp [okN] at h
  | obj _ => cases n <;> simp [okN] at h
  | scr _ => cases n <;> simp [okN] at h
  | _ => simp [F_law_is_whole, B__law_is_whole, go, wholeB]
theorem lfrom_B {d : D} (h : okN n d = true) {nc ns : Int} {w : Str} (hw : timeB w = true) : F_law_is_from [.tup [.int nc, .int ns], .str w, d] μ = some (.ok (.bl (srcB nc w d)), μ) := by
  have hwk : inD μ (.str w) (.lst [.str "card", .str "hole", .str "plain"]) = some (cardyB w) := by
    have hc : w = "card" ∨ w = "hole" ∨ w = "plain" ∨ w = "minor" ∨ w = "major" := by
      simp [timeB] at hw
      rcases hw with (((h | h) | h) | h) | h <;> simp [h]
    rcases hc with rfl | rfl | rfl | rfl | rfl <;> kernel_rfl
  have other : ∀ d : D, okN n d = true → (∀ z, d ≠ .str z) → Bi.do .isi μ [d, .ty "str"] = some (.bl false) → F_law_is_from [.tup [.int nc, .int ns], .str w, d] μ = some (.ok (.bl (wholeB 0 (nc - 1) d)), μ) := by
    intro d hd hn hi
    have := lwhole_B (μ := μ) hd (lo := 0) (hi := nc - 1)
    simp [F_law_is_from, B__law_is_from, go, hi, this]
  cases d with
  | str z =>
    have h1 := in_strl (μ := μ) (okS h) (ws := ["x", "y"]) (by decide +kernel)
    simp at h1
    cases hx : (z == ("x" : Str) || z == ("y" : Str)) with
    | true =>
      simp at hx
      have h2 : inD μ (.str z) (.lst [.str "x", .str "y"]) = some true := by rw [h1]; simp [hx]
      simp [F_law_is_from, B__law_is_from, go, szL, h2, hwk, srcB, hx]
    | false =>
      simp at hx
      have h2 : inD μ (.str z) (.lst [.str "x", .str "y"]) = some false := by rw [h1]; simp [hx]
      simp [F_law_is_from, B__law_is_from, go, szL, h2, srcB, hx]
  | ty _ => cases n <;> simp [okN] at h
  | glo _ => cases n <;> simp [okN] at h
  | obj _ => cases n <;> simp [okN] at h
  | scr _ => cases n <;> simp [okN] at h
  | non => exact other _ h (by simp) (by simp)
  | bl _ => exact other _ h (by simp) (by simp)
  | int _ => exact other _ h (by simp) (by simp)
  | tup _ => exact other _ h (by simp) (by simp)
  | lst _ => exact other _ h (by simp) (by simp)
theorem in_23 (i : Int) : inD μ (.int i) (.tup [.int 2, .int 3]) = some (decide (i = 2) || decide (i = 3)) := by
  rw [inD_t (ok_int 64 i) rfl]
  simp only [List.any_cons, List.any_nil, Bool.or_false, eqb]
  congr 1
  by_cases a : i = 2
  · subst a; rfl
  · by_cases b : i = 3
    · subst b; rfl
    · simp [a, b]; exact ⟨fun e => a e.symm, fun e => b e.symm⟩
theorem lact_B {d : D} (h : okN n d = true) (hn : n ≤ 63) {nc ns : Int} {w : Str} (hw : timeB w = true) : F_law_is_act [.tup [.int nc, .int ns], .str w, d] μ = some (.ok (.bl (actB nc ns w d)), μ) := by
  cases d with
  | ty _ => cases n <;> simp [okN] at h
  | glo _ => cases n <;> simp [okN] at h
  | obj _ => cases n <;> simp [okN] at h
  | scr _ => cases n <;> simp [okN] at h
  | tup ds =>
    obtain ⟨m, rfl, ho⟩ := ok_tup h
    match ds, ho with
    | [], _ => simp [F_law_is_act, B__law_is_act, go, actB, szL, in_23]
    | [x], _ => simp [F_law_is_act, B__law_is_act, go, actB, szL, in_23]
    | x :: y :: z :: u :: l, _ =>
      have h1 : ¬ ((l.length : Int) + 1 + 1 + 1 + 1 = 2) := by omega
      have h2 : ¬ ((l.length : Int) + 1 + 1 + 1 + 1 = 3) := by omega
      simp [F_law_is_act, B__law_is_act, go, actB, szL, in_23, h1, h2]
    | [x, a], ho =>
      have hox := okNs_mem ho x (by simp)
      have hoa := okNs_mem ho a (by simp)
      cases x with
      | str z =>
        have hz := okS hox
        have e2 := eq_str (μ := μ) hz (w := "clear") (by decide +kernel)
        have e4 := eq_str (μ := μ) hz (w := "print") (by decide +kernel)
        have ew := lwhole_B (μ := μ) hoa (lo := 0) (hi := nc - 1)
        cases c2 : (z == ("clear" : Str)) with
        | true =>
          rw [c2] at e2
          simp [F_law_is_act, B__law_is_act, go, actB, szL, in_23, e2, c2, ew]
        | false =>
          rw [c2] at e2
          cases c4 : (z == ("print" : Str)) with
          | false =>
            rw [c4] at e4
            simp [F_law_is_act, B__law_is_act, go, actB, szL, in_23, e2, c2, e4, c4]
          | true =>
            rw [c4] at e4
            cases a with
            | ty _ => cases m <;> simp [okN] at hoa
            | glo _ => cases m <;> simp [okN] at hoa
            | obj _ => cases m <;> simp [okN] at hoa
            | scr _ => cases m <;> simp [okN] at hoa
            | tup its =>
              obtain ⟨m2, rfl, ho2⟩ := ok_tup hoa
              by_cases h1 : 1 ≤ its.length
              · by_cases h3 : its.length ≤ 3
                · have k1 : (1 : Int) ≤ its.length := by omega
                  have k3 : (its.length : Int) ≤ 3 := by omega
                  have e := comp_bad (μ := μ) (xs := its) (p := srcB nc w) (i := 3) (δ := [.d (.tup [.int nc, .int ns]), .d (.str w), .d (.tup [.str z, .tup its]), .un]) (c := .call F_law_is_from (.cons (.var 0) (.cons (.var 1) (.cons (.var 3) .nil)))) (by omega) (by simp) (fun x hx => by
                    simp [lfrom_B (μ := μ) (okNs_mem ho2 x hx) hw])
                  have e5 := eq_bad (μ := μ) (p := srcB nc w) (show m2 ≤ 63 by omega) ho2
                  simp [F_law_is_act, B__law_is_act, go, actB, szL, in_23, e2, c2, e4, c4, k1, k3, kcomp, wipeS, e, e5, printB, h1, h3]
                · have k1 : (1 : Int) ≤ its.length := by omega
                  have k3 : ¬ (its.length : Int) ≤ 3 := by omega
                  simp [F_law_is_act, B__law_is_act, go, actB, szL, in_23, e2, c2, e4, c4, k1, k3, printB, h3]
              · have k1 : ¬ (1 : Int) ≤ its.length := by omega
                simp [F_law_is_act, B__law_is_act, go, actB, szL, in_23, e2, c2, e4, c4, k1, printB, h1]
            | _ => simp [F_law_is_act, B__law_is_act, go, actB, szL, in_23, e2, c2, e4, c4, printB]
      | ty _ => cases m <;> simp [okN] at hox
      | glo _ => cases m <;> simp [okN] at hox
      | obj _ => cases m <;> simp [okN] at hox
      | scr _ => cases m <;> simp [okN] at hox
      | _ => simp [F_law_is_act, B__law_is_act, go, actB, szL, in_23]
    | [x, a, b], ho =>
      have hox := okNs_mem ho x (by simp)
      have hoa := okNs_mem ho a (by simp)
      have hob := okNs_mem ho b (by simp)
      cases x with
      | str z =>
        have hz := okS hox
        have e1 := in_addless (μ := μ) hz
        have e3 := eq_str (μ := μ) hz (w := "set") (by decide +kernel)
        have ea := lwhole_B (μ := μ) hoa (lo := 0) (hi := ns - 1)
        have eb := lwhole_B (μ := μ) hob (lo := 0) (hi := nc - 1)
        have es := lfrom_B (μ := μ) hoa (nc := nc) (ns := ns) hw
        have hbb := isbl (μ := μ) hob
        cases c3 : (z == ("set" : Str)) with
        | true =>
          rw [c3] at e3
          have c1 : (z == ("add" : Str) || z == ("less" : Str)) = false := by
            simp at c3
            subst c3
            decide +kernel
          cases hq : wholeB 0 (ns - 1) a with
          | true =>
            rw [hq] at ea
            simp [F_law_is_act, B__law_is_act, go, actB, szL, in_23, e3, c3, c1, ea, hq, hbb]
          | false =>
            rw [hq] at ea
            simp [F_law_is_act, B__law_is_act, go, actB, szL, in_23, e3, c3, c1, ea, hq]
        | false =>
          rw [c3] at e3
          cases c1 : (z == ("add" : Str) || z == ("less" : Str)) with
          | true =>
            rw [c1] at e1
            cases hq : srcB nc w a with
            | true =>
              rw [hq] at es
              simp [F_law_is_act, B__law_is_act, go, actB, szL, in_23, e3, c1, e1, es, hq, eb]
            | false =>
              rw [hq] at es
              simp [F_law_is_act, B__law_is_act, go, actB, szL, in_23, e3, c1, e1, es, hq]
          | false =>
            rw [c1] at e1
            simp [F_law_is_act, B__law_is_act, go, actB, szL, in_23, e3, c3, c1, e1]
      | ty _ => cases m <;> simp [okN] at hox
      | glo _ => cases m <;> simp [okN] at hox
      | obj _ => cases m <;> simp [okN] at hox
      | scr _ => cases m <;> simp [okN] at hox
      | _ => simp [F_law_is_act, B__law_is_act, go, actB, szL, in_23]
  | _ => simp [F_law_is_act, B__law_is_act, go, actB]
theorem lone_B {d : D} (h : okN n d = true) : F_law_is_one_of [d, .lst [.str "card", .str "hole", .str "plain", .str "minor", .str "major"]] μ = some (.ok (.bl (match d with
    | .str w => timeB w
    | _ => false)), μ) := by
  cases d with
  | ty _ => cases n <;> simp [okN] at h
  | glo _ => cases n <;> simp [okN] at h
  | obj _ => cases n <;> simp [okN] at h
  | scr _ => cases n <;> simp [okN] at h
  | str z =>
    have := in_strl (μ := μ) (okS h) (ws := ["card", "hole", "plain", "minor", "major"]) (by decide +kernel)
    simp at this
    simp [F_law_is_one_of, B__law_is_one_of, go, this, timeB, Bool.or_assoc]
  | _ => simp [F_law_is_one_of, B__law_is_one_of, go]
theorem lwire_B {d : D} (h : okN n d = true) (hn : n ≤ 63) {nc ns : Int} : F_law_is_wire [.tup [.int nc, .int ns], d] μ = some (.ok (.bl (wireB nc ns d)), μ) := by
  cases d with
  | ty _ => cases n <;> simp [okN] at h
  | glo _ => cases n <;> simp [okN] at h
  | obj _ => cases n <;> simp [okN] at h
  | scr _ => cases n <;> simp [okN] at h
  | tup ds =>
    obtain ⟨m, rfl, ho⟩ := ok_tup h
    match ds, ho with
    | [], _ => simp [F_law_is_wire, B__law_is_wire, go, wireB]
    | [x], _ => simp [F_law_is_wire, B__law_is_wire, go, wireB]
    | [x, y], _ => simp [F_law_is_wire, B__law_is_wire, go, wireB]
    | x :: y :: z :: u :: l, _ =>
      have : ¬ ((l.length : Int) + 1 + 1 + 1 + 1 = 3) := by omega
      simp [F_law_is_wire, B__law_is_wire, go, wireB, this]
    | [x, s, a], ho =>
      have hx := okNs_mem ho x (by simp)
      have hs := okNs_mem ho s (by simp)
      have ha := okNs_mem ho a (by simp)
      have hwd := lone_B (μ := μ) hx
      cases x with
      | str w =>
        cases hw : timeB w with
        | false =>
          simp [hw] at hwd
          simp [F_law_is_wire, B__law_is_wire, go, wireB, szL, hwd, hw]
        | true =>
          simp [hw] at hwd
          have hact := lact_B (μ := μ) ha (by omega) (nc := nc) (ns := ns) hw
          cases s with
          | ty _ => cases m <;> simp [okN] at hs
          | glo _ => cases m <;> simp [okN] at hs
          | obj _ => cases m <;> simp [okN] at hs
          | scr _ => cases m <;> simp [okN] at hs
          | non => simp [F_law_is_wire, B__law_is_wire, go, wireB, szL, hwd, hw, swB, hact]
          | tup ss =>
            obtain ⟨m2, rfl, ho2⟩ := ok_tup hs
            match ss, ho2 with
            | [], _ => simp [F_law_is_wire, B__law_is_wire, go, wireB, szL, hwd, swB]
            | [p], _ => simp [F_law_is_wire, B__law_is_wire, go, wireB, szL, hwd, swB]
            | p :: q :: u :: l, _ =>
              have : ¬ ((l.length : Int) + 1 + 1 + 1 = 2) := by omega
              simp [F_law_is_wire, B__law_is_wire, go, wireB, szL, hwd, swB, this]
            | [p, q], ho2 =>
              have hp := lwhole_B (μ := μ) (okNs_mem ho2 p (by simp)) (lo := 0) (hi := ns - 1)
              have hq := okNs_mem ho2 q (by simp)
              cases q with
              | bl b =>
                cases hpw : wholeB 0 (ns - 1) p with
                | true =>
                  rw [hpw] at hp
                  simp [F_law_is_wire, B__law_is_wire, go, wireB, szL, hwd, swB, hp, hpw, hact, hw]
                | false =>
                  rw [hpw] at hp
                  simp [F_law_is_wire, B__law_is_wire, go, wireB, szL, hwd, swB, hp, hpw]
              | ty _ => cases m2 <;> simp [okN] at hq
              | glo _ => cases m2 <;> simp [okN] at hq
              | obj _ => cases m2 <;> simp [okN] at hq
              | scr _ => cases m2 <;> simp [okN] at hq
              | _ => simp [F_law_is_wire, B__law_is_wire, go, wireB, szL, hwd, swB]
          | _ => simp [F_law_is_wire, B__law_is_wire, go, wireB, szL, hwd, swB]
      | ty _ => cases m <;> simp [okN] at hx
      | glo _ => cases m <;> simp [okN] at hx
      | obj _ => cases m <;> simp [okN] at hx
      | scr _ => cases m <;> simp [okN] at hx
      | _ => simp at hwd; simp [F_law_is_wire, B__law_is_wire, go, wireB, szL, hwd]
  | _ => simp [F_law_is_wire, B__law_is_wire, go, wireB]
theorem lboard_B {d : D} (h : okN n d = true) (hn : n ≤ 63) (hl : ∀ a b ws, d = .tup [a, b, .tup ws] → ws.length ≤ 1000000) : F_law_is_board [d] μ = some (.ok (.bl (boardB d)), μ) := by
  cases d with
  | ty _ => cases n <;> simp [okN] at h
  | glo _ => cases n <;> simp [okN] at h
  | obj _ => cases n <;> simp [okN] at h
  | scr _ => cases n <;> simp [okN] at h
  | tup ds =>
    obtain ⟨m, rfl, ho⟩ := ok_tup h
    match ds, ho with
    | [], _ => simp [F_law_is_board, B__law_is_board, go, boardB]
    | [x], _ => simp [F_law_is_board, B__law_is_board, go, boardB]
    | [x, y], _ => simp [F_law_is_board, B__law_is_board, go, boardB]
    | x :: y :: z :: u :: l, _ =>
      have : ¬ ((l.length : Int) + 1 + 1 + 1 + 1 = 3) := by omega
      simp [F_law_is_board, B__law_is_board, go, boardB, this]
    | [x, y, z], ho =>
      have hx := okNs_mem ho x (by simp)
      have hy := okNs_mem ho y (by simp)
      have hz := okNs_mem ho z (by simp)
      have ex := lwhole_B (μ := μ) hx (lo := 0) (hi := 3)
      have ey := lwhole_B (μ := μ) hy (lo := 0) (hi := 2)
      cases bx : wholeB 0 3 x with
      | false =>
        rw [bx] at ex
        have hb : boardB (.tup [x, y, z]) = false := by
          unfold boardB
          split
          · rename_i a b c e
            simp at e
            obtain ⟨rfl, _⟩ := e
            simp [bx]
          · rfl
        simp [F_law_is_board, B__law_is_board, go, ex, hb]
      | true =>
        rw [bx] at ex
        obtain ⟨nc, rfl, _⟩ := whole_int bx
        cases bY : wholeB 0 2 y with
        | false =>
          rw [bY] at ey
          have hb : boardB (.tup [.int nc, y, z]) = false := by
            unfold boardB
            split
            · rename_i a b c e
              simp at e
              obtain ⟨rfl, rfl, _⟩ := e
              simp [bY]
            · rfl
          simp [F_law_is_board, B__law_is_board, go, ex, ey, hb]
        | true =>
          rw [bY] at ey
          obtain ⟨ns, rfl, _⟩ := whole_int bY
          cases z with
          | ty _ => cases m <;> simp [okN] at hz
          | glo _ => cases m <;> simp [okN] at hz
          | obj _ => cases m <;> simp [okN] at hz
          | scr _ => cases m <;> simp [okN] at hz
          | tup ws =>
            obtain ⟨m2, rfl, ho2⟩ := ok_tup hz
            by_cases h8 : ws.length ≤ 8
            · have k8 : ¬ (8 : Int) < ws.length := by omega
              have e := comp_bad (μ := μ) (xs := ws) (p := wireB nc ns) (i := 1) (δ := [.d (.tup [.int nc, .int ns, .tup ws]), .un]) (c := .call F_law_is_wire (.cons (.slc (.var 0) .no (.yes (.con (.int (2))))) (.cons (.var 1) .nil))) (by omega) (by simp) (fun x hx => by
                simp [cut2, lwire_B (μ := μ) (okNs_mem ho2 x hx) (by omega)])
              have e2 := eq_bad (μ := μ) (p := wireB nc ns) (show m2 ≤ 63 by omega) ho2
              simp [F_law_is_board, B__law_is_board, go, ex, ey, k8, kcomp, wipeS, e, szL, e2, boardB, bx, bY, h8]
            · have k8 : (8 : Int) < ws.length := by omega
              simp [F_law_is_board, B__law_is_board, go, ex, ey, k8, boardB, h8]
          | _ => simp [F_law_is_board, B__law_is_board, go, ex, ey, boardB]
  | _ => simp [F_law_is_board, B__law_is_board, go, boardB]
end
end Kv
set_option Elab.async false
set_option linter.all false
set_option maxRecDepth 100000
set_option maxHeartbeats 4000000
/-! K7a: words of lines as wires: the program's reading and the law's. -/
namespace K7
open PySem L2 Mi Pg Ev Dr Mm Kv
def digs : List Str := ["0", "1", "2", "3", "4", "5", "6", "7", "8", "9"]
/-- what a word writes -/
def partD (z : Str) : D := if z = "0" then .int 0 else if z = "1" then .int 1 else if z = "2" then .int 2 else if z = "3" then .int 3 else if z = "4" then .int 4 else if z = "5" then .int 5 else if z = "6" then .int 6 else if z = "7" then .int 7 else if z = "8" then .int 8 else if z = "9" then .int 9 else .str z
theorem part_cases (z : Str) : (∃ i : Nat, i ≤ 9 ∧ z = dg i ∧ partD z = .int i) ∨ (partD z = .str z ∧ z ∉ digs) := by
  unfold partD
  split; · exact .inl ⟨0, by omega, by subst z; decide +kernel, rfl⟩
  split; · exact .inl ⟨1, by omega, by subst z; decide +kernel, rfl⟩
  split; · exact .inl ⟨2, by omega, by subst z; decide +kernel, rfl⟩
  split; · exact .inl ⟨3, by omega, by subst z; decide +kernel, rfl⟩
  split; · exact .inl ⟨4, by omega, by subst z; decide +kernel, rfl⟩
  split; · exact .inl ⟨5, by omega, by subst z; decide +kernel, rfl⟩
  split; · exact .inl ⟨6, by omega, by subst z; decide +kernel, rfl⟩
  split; · exact .inl ⟨7, by omega, by subst z; decide +kernel, rfl⟩
  split; · exact .inl ⟨8, by omega, by subst z; decide +kernel, rfl⟩
  split; · exact .inl ⟨9, by omega, by subst z; decide +kernel, rfl⟩
  refine .inr ⟨rfl, fun m => ?_⟩
  simp only [digs, List.mem_cons, List.not_mem_nil, or_false] at m
  rcases m with e | e | e | e | e | e | e | e | e | e <;> contradiction
theorem part_int {z : Str} {i : Int} (h : partD z = .int i) : ∃ k : Nat, k ≤ 9 ∧ i = k ∧ z = dg k := by
  rcases part_cases z with ⟨k, h1, h2, h3⟩ | ⟨h1, _⟩
  · rw [h3] at h; cases h; exact ⟨k, h1, rfl, h2⟩
  · rw [h1] at h; cases h
theorem part_str {z x : Str} (h : partD z = .str x) : z = x := by
  rcases part_cases z with ⟨k, h1, h2, h3⟩ | ⟨h1, _⟩
  · rw [h3] at h; cases h
  · rw [h1] at h; cases h; rfl
theorem part_ok {z : Str} (h : PyData.strOk z = true) (n : Nat) : okN n (partD z) = true := by
  rcases part_cases z with ⟨k, h1, h2, h3⟩ | ⟨h1, _⟩
  · rw [h3]; exact ok_int n _
  · rw [h1]; exact ok_str _ _ h
theorem dg_cases {i : Nat} (h : i ≤ 9) : i = 0 ∨ i = 1 ∨ i = 2 ∨ i = 3 ∨ i = 4 ∨ i = 5 ∨ i = 6 ∨ i = 7 ∨ i = 8 ∨ i = 9 := by omega
section
variable {μ : List Mo}
theorem str_one {z : Str} (h : z.length = 1) : ∃ c, z = ⟨#[c]⟩ := by
  obtain ⟨⟨l⟩⟩ := z
  match l, h with
  | [c], _ => exact ⟨c, rfl⟩
theorem digit_mem {c : Nat} (h : c ∈ ("0123456789" : Str).cps.toList) : (⟨#[c]⟩ : Str) ∈ digs := by
  have e : ("0123456789" : Str).cps.toList = [48, 49, 50, 51, 52, 53, 54, 55, 56, 57] := by decide +kernel
  rw [e] at h
  simp only [List.mem_cons, List.not_mem_nil, or_false] at h
  rcases h with e | e | e | e | e | e | e | e | e | e <;> subst e <;> decide +kernel
theorem ppart_ok {z : Str} (hl : z.length ≤ 1000000) : Fpart_of [.str z] μ = some (.ok (partD z), μ) := by
  rcases part_cases z with ⟨k, h1, h2, h3⟩ | ⟨h1, h2⟩
  · rw [h3, h2]
    rcases dg_cases h1 with rfl | rfl | rfl | rfl | rfl | rfl | rfl | rfl | rfl | rfl <;> kernel_rfl
  · rw [h1]
    have hl2 : z.length ≤ 16777216 := by omega
    have hlen : Bi.do .len μ [.str z] = some (.int z.length) := by
      show (lenD μ (.str z)).map (fun n => D.int (n : Int)) = _
      simp only [lenD]
      simp [szL, hl2]
    by_cases q : z.length = 1
    · obtain ⟨c, rfl⟩ := str_one q
      have hin : Op.do .in_ μ (.str ⟨#[c]⟩) (.str "0123456789") = some (.bl false) := by
        show (inD μ (.str ⟨#[c]⟩) (.str "0123456789")).map _ = _
        have : inD μ (.str ⟨#[c]⟩) (.str "0123456789") = some (decide (c ∈ ("0123456789" : Str).cps.toList)) := by
          show some _ = _
          rw [PySem.StrLaws.found_one]
        rw [this, decide_eq_false fun m => h2 (digit_mem m)]
        rfl
      simp [Fpart_of, B_part_of, go, hlen, hin, q]
    · have q2 : ¬ ((z.length : Int) = 1) := by omega
      simp [Fpart_of, B_part_of, go, hlen, q2]
theorem lpart_ok {z : Str} (hz : PyData.strOk z = true) : F_law_part [.str z] μ = some (.ok (partD z), μ) := by
  rcases part_cases z with ⟨k, h1, h2, h3⟩ | ⟨h1, h2⟩
  · rw [h3, h2]
    rcases dg_cases h1 with rfl | rfl | rfl | rfl | rfl | rfl | rfl | rfl | rfl | rfl <;> kernel_rfl
  · rw [h1]
    have hls : Bi.do .list μ [.str "0123456789"] = some (.lst (digs.map .str)) := by kernel_rfl
    have hin : Op.do .in_ μ (.str z) (.lst (digs.map .str)) = some (.bl false) := by
      show (inD μ (.str z) (.lst (digs.map .str))).map _ = _
      rw [inD_l (ok_str z 64 hz) (by decide +kernel)]
      have : (digs.map D.str).any (fun y => eqb y (.str z)) = false := by
        rw [List.any_eq_false]
        intro y hy
        obtain ⟨w, hw, rfl⟩ := List.mem_map.mp hy
        have : ¬ w = z := fun e => h2 (e ▸ hw)
        simpa [eqb] using this
      rw [this]; rfl
    simp [F_law_part, B__law_part, go, hls, hin]
end
/-- the action that words write -/
def actW : List Str → D
  | [] => .tup []
  | a :: r => if a = "on" ∨ a = "off" then .tup (.str "set" :: (r.map partD ++ [.bl (decide (a = "on"))])) else if a = "print" then .tup [.str "print", .tup (r.map partD)] else .tup ((a :: r).map partD)
/-- the wire that words write -/
def wireW : List Str → D
  | w :: i :: n :: r => if i = "if" ∨ i = "unless" then .tup [.str w, .tup [partD n, .bl (decide (i = "if"))], actW r] else .tup [.str w, .non, actW (i :: n :: r)]
  | w :: r => .tup [.str w, .non, actW r]
  | [] => .non
section
variable {μ : List Mo}
/-- words as they come from a line -/
structure Wds (ws : List Str) : Prop where
  ok : ∀ z ∈ ws, PyData.strOk z = true
  ln : ∀ z ∈ ws, z.length ≤ 1000000
  n : ws.length ≤ 1000000
theorem Wds.tl {w : Str} {ws : List Str} (h : Wds (w :: ws)) : Wds ws := ⟨fun z hz => h.ok z (List.mem_cons_of_mem _ hz), fun z hz => h.ln z (List.mem_cons_of_mem _ hz), by have := h.n; simp at this; omega⟩
theorem comp_part {F : Sem} (hF : ∀ z, PyData.strOk z = true → z.length ≤ 1000000 → F [.str z] μ = some (.ok (partD z), μ)) {ws : List Str} (h : Wds ws) {δ : List Sl} {i : Nat} (hi : i < δ.length) :
    compL (.name i) (ev (.con (.bl true))) (ev (.call F (.cons (.var i) .nil))) δ (ws.map .str) [] μ = some (.ok (.lst (ws.map partD)), μ) := by
  have := comp_map (μ := μ) (f := D.str) (g := partD) (tg := .name i) (keep := ev (.con (.bl true))) (elt := ev (.call F (.cons (.var i) .nil))) (δ := δ) (fun δ μ => by simp) ws [] (by rw [szL]; have := h.n; simp; omega) (fun z hz => ⟨_, rfl, by
    have h5 : (δ.set i (.d (.str z)))[i]? = some (.d (.str z)) := by rw [List.getElem?_set_self hi]
    simp [h5, hF z (h.ok z hz) (h.ln z hz)]⟩)
  rw [List.nil_append] at this
  exact this
theorem cut01n {α : Type} : cutL ([] : List α) none (some 1) = [] := by simp [cutL]
theorem eqb_part {a : Str} {w : Str} (hw : w ∉ digs) : eqb (partD a) (.str w) = decide (a = w) := by
  rcases part_cases a with ⟨k, h1, h2, h3⟩ | ⟨h1, _⟩
  · rw [h3]
    have : a ≠ w := fun e => hw (by rw [← e, h2]; rcases dg_cases h1 with rfl | rfl | rfl | rfl | rfl | rfl | rfl | rfl | rfl | rfl <;> decide +kernel)
    rw [decide_eq_false this]; rfl
  · rw [h1]; simp [eqb]; rfl
end
end K7
set_option Elab.async false
set_option linter.all false
set_option maxRecDepth 100000
set_option maxHeartbeats 4000000
/-! K7b: lines as wires, by the program and by the law. -/
namespace K7
open PySem L2 Mi Pg Ev Dr Mm Kv
theorem eqb_part2 {a : Str} {w : Str} (hw : w ∉ digs) : eqb (.str w) (partD a) = decide (a = w) := by
  rcases part_cases a with ⟨k, h1, h2, h3⟩ | ⟨h1, _⟩
  · rw [h3]
    have : a ≠ w := fun e => hw (by rw [← e, h2]; rcases dg_cases h1 with rfl | rfl | rfl | rfl | rfl | rfl | rfl | rfl | rfl | rfl <;> decide +kernel)
    rw [decide_eq_false this]; rfl
  · rw [h1]
    show (w == a) = decide (a = w)
    by_cases e : a = w
    · subst e; simp
    · rw [decide_eq_false e]; simp; exact fun z => e z.symm
theorem eqb_t1 {x y : D} : eqb (.tup [x]) (.tup [y]) = eqb x y := by
  rw [eqb, eqbs, eqbs, Bool.and_true]
theorem eqb_l1 {x y : D} : eqb (.lst [x]) (.lst [y]) = eqb x y := by
  rw [eqb, eqbs, eqbs, Bool.and_true]
theorem eqb_s {x y : Str} : eqb (.str x) (.str y) = (x == y) := rfl
theorem parts_ok {ws : List Str} (h : Wds ws) (n : Nat) : okNs n (ws.map partD) = true := by
  refine okNs_all fun x hx => ?_
  obtain ⟨z, hz, rfl⟩ := List.mem_map.mp hx
  exact part_ok (h.ok z hz) n
theorem nd_on : ("on" : Str) ∉ digs := by decide +kernel
theorem nd_off : ("off" : Str) ∉ digs := by decide +kernel
theorem nd_print : ("print" : Str) ∉ digs := by decide +kernel
section
variable {μ : List Mo}
theorem in_onoff {a : Str} (ha : PyData.strOk a = true) : inD μ (.tup [partD a]) (.tup [.tup [.str "on"], .tup [.str "off"]]) = some (decide (a = "on" ∨ a = "off")) := by
  rw [inD_t (by simp [okN, okNs, part_ok ha]) (by decide +kernel)]
  simp [List.any_cons, List.any_nil, eqb_t1, eqb_part2 nd_on, eqb_part2 nd_off]
theorem in_onoff0 : inD μ (.tup []) (.tup [.tup [.str "on"], .tup [.str "off"]]) = some false := by kernel_rfl
theorem eq_part {a w : Str} (ha : PyData.strOk a = true) (hw : w ∉ digs) (hwo : PyData.strOk w = true) : eqD μ (partD a) (.str w) = some (decide (a = w)) := by
  rw [eqD_ok (part_ok ha 64) (ok_str w 64 hwo), eqb_part hw]
theorem eq_tprint {a : Str} (ha : PyData.strOk a = true) : eqD μ (.tup [partD a]) (.tup [.str "print"]) = some (decide (a = "print")) := by
  rw [eqD_ok (by simp [okN, okNs, part_ok ha]) (by decide +kernel)]
  rw [eqb_t1, eqb_part nd_print]
theorem eq_tprint0 : eqD μ (.tup []) (.tup [.str "print"]) = some false := by kernel_rfl
theorem action_ok {ws : List Str} (h : Wds ws) : Faction_of [.lst (ws.map .str)] μ = some (.ok (actW ws), μ) := by
  have hc := comp_part (μ := μ) (F := Fpart_of) (fun z _ hl => ppart_ok hl) h (δ := [.d (.lst (ws.map .str)), .un, .un]) (i := 2) (by simp)
  cases ws with
  | nil =>
    simp at hc
    simp [Faction_of, B_action_of, go, kcomp, wipeS, hc, cut01n, in_onoff0, eq_tprint0, actW, szL]
  | cons a r =>
    have ha := h.ok a List.mem_cons_self
    have hn := h.n
    have z1 : 1 + r.length ≤ 16777216 := by simp at hn; omega
    have z2 : 1 + r.length + 1 ≤ 16777216 := by simp at hn; omega
    have z3 : r.length + 1 + 1 ≤ 16777216 := by simp at hn; omega
    have h1 := in_onoff (μ := μ) ha
    have h2 := eq_part (μ := μ) ha nd_on (by decide +kernel)
    have h3 := eq_tprint (μ := μ) ha
    simp at hc
    by_cases q : a = "on" ∨ a = "off"
    · rw [decide_eq_true q] at h1
      have e : actW (a :: r) = .tup (.str "set" :: (r.map partD ++ [.bl (decide (a = "on"))])) := if_pos q
      rw [e]
      simp [Faction_of, B_action_of, go, kcomp, wipeS, hc, cut01, cut1, h1, h2, szL, z1, z2, z3]
    · rw [decide_eq_false q] at h1
      by_cases p : a = "print"
      · rw [decide_eq_true p] at h3
        have e : actW (a :: r) = .tup [.str "print", .tup (r.map partD)] := (if_neg q).trans (if_pos p)
        rw [e]
        simp [Faction_of, B_action_of, go, kcomp, wipeS, hc, cut01, cut1, h1, h3, szL]
      · rw [decide_eq_false p] at h3
        have e : actW (a :: r) = .tup ((a :: r).map partD) := (if_neg q).trans (if_neg p)
        rw [e]
        simp [Faction_of, B_action_of, go, kcomp, wipeS, hc, cut01, cut1, h1, h3, szL]
theorem in_ifun {a : Str} (ha : PyData.strOk a = true) : inD μ (.str a) (.tup [.str "if", .str "unless"]) = some (decide (a = "if" ∨ a = "unless")) := by
  rw [inD_t (ok_str a 64 ha) (by decide +kernel)]
  simp only [List.any_cons, List.any_nil, eqb_s, Bool.or_false]
  congr 1
  by_cases e1 : a = "if"
  · subst e1; simp
  · by_cases e2 : a = "unless"
    · subst e2; simp
    · simp [e1, e2, Ne.symm e1, Ne.symm e2]
theorem eq_if2 {a : Str} (ha : PyData.strOk a = true) : eqD μ (.str a) (.str "if") = some (decide (a = "if")) := by
  rw [eq_str ha (by decide +kernel)]
  by_cases e : a = "if"
  · subst e; simp
  · simp [e]
theorem pwire_ok {z : Str} (hl : z.length ≤ 900000) (h : Wds (Txt.split z " ")) (hne : Txt.split z " " ≠ []) : Fwire_of [.str z] μ = some (.ok (wireW (Txt.split z " ")), μ) := by
  have hsp : Bi.do .split μ [.str z, .str " "] = some (.lst ((Txt.split z " ").map .str)) := by
    show (if (!((" " : Str).length == 0) && decide (z.length + 2 ≤ sizeLine)) = true then some (D.lst ((Txt.split z " ").map .str)) else none) = _
    have e0 : ((" " : Str).length == 0) = false := by decide +kernel
    rw [e0, szL, if_pos (by simp; omega)]
  generalize Txt.split z " " = ws at hsp h hne ⊢
  match ws, h, hne with
  | [w], h, _ =>
    have ha := action_ok (μ := μ) (ws := []) ⟨by simp, by simp, by simp⟩
    simp at hsp ha
    simp [Fwire_of, B_wire_of, go, hsp, cut1, ha, wireW, szL]
  | [w, i], h, _ =>
    have ha := action_ok (μ := μ) h.tl
    simp at hsp ha
    simp [Fwire_of, B_wire_of, go, hsp, cut1, ha, wireW, szL]
  | w :: i :: n :: r, h, _ =>
    have ha := action_ok (μ := μ) h.tl
    have ha3 := action_ok (μ := μ) h.tl.tl.tl
    have hi := in_ifun (μ := μ) (h.ok i (by simp))
    have he := eq_if2 (μ := μ) (h.ok i (by simp))
    have hp := ppart_ok (μ := μ) (h.ln n (by simp))
    have t3 : (2 : Int) < (r.length : Int) + 1 + 1 + 1 := by omega
    simp at hsp ha ha3
    by_cases q : i = "if" ∨ i = "unless"
    · rw [decide_eq_true q] at hi
      have e : wireW (w :: i :: n :: r) = .tup [.str w, .tup [partD n, .bl (decide (i = "if"))], actW r] := if_pos q
      rw [e]
      simp [Fwire_of, B_wire_of, go, hsp, t3, hi, he, hp, cut3, ha3, szL]
    · rw [decide_eq_false q] at hi
      have e : wireW (w :: i :: n :: r) = .tup [.str w, .non, actW (i :: n :: r)] := if_neg q
      rw [e]
      simp [Fwire_of, B_wire_of, go, hsp, t3, hi, cut1, ha, szL]
theorem cut2b {α : Type} (x y : α) (xs : List α) : cutL (x :: y :: xs) (some 2) none = xs := by
  have := cut_drop (x :: y :: xs) 2
  simpa using this
/-! the law's -/
theorem in_lif {a : Str} (ha : PyData.strOk a = true) : inD μ (.lst [.str a]) (.lst [.lst [.str "if"], .lst [.str "unless"]]) = some (decide (a = "if" ∨ a = "unless")) := by
  rw [inD_l (by simp [okN, okNs, ha]) (by decide +kernel)]
  simp only [List.any_cons, List.any_nil, eqb_l1, eqb_s, Bool.or_false]
  congr 1
  by_cases e1 : a = "if"
  · subst e1; simp
  · by_cases e2 : a = "unless"
    · subst e2; simp
    · simp [e1, e2, Ne.symm e1, Ne.symm e2]
theorem in_lif0 : inD μ (.lst []) (.lst [.lst [.str "if"], .lst [.str "unless"]]) = some false := by kernel_rfl
theorem in_lon {a : Str} (ha : PyData.strOk a = true) : inD μ (.lst [.str a]) (.lst [.lst [.str "on"], .lst [.str "off"]]) = some (decide (a = "on" ∨ a = "off")) := by
  rw [inD_l (by simp [okN, okNs, ha]) (by decide +kernel)]
  simp only [List.any_cons, List.any_nil, eqb_l1, eqb_s, Bool.or_false]
  congr 1
  by_cases e1 : a = "on"
  · subst e1; simp
  · by_cases e2 : a = "off"
    · subst e2; simp
    · simp [e1, e2, Ne.symm e1, Ne.symm e2]
theorem in_lon0 : inD μ (.lst []) (.lst [.lst [.str "on"], .lst [.str "off"]]) = some false := by kernel_rfl
theorem eq_lprint {a : Str} (ha : PyData.strOk a = true) : eqD μ (.lst [.str a]) (.lst [.str "print"]) = some (decide (a = "print")) := by
  rw [eqD_ok (by simp [okN, okNs, ha]) (by decide +kernel)]
  rw [eqb_l1, eqb_s]
  by_cases e : a = "print"
  · subst e; simp
  · simp [e]
theorem eq_lprint0 : eqD μ (.lst []) (.lst [.str "print"]) = some false := by kernel_rfl
theorem eq_on2 {a : Str} (ha : PyData.strOk a = true) : eqD μ (.str a) (.str "on") = some (decide (a = "on")) := by
  rw [eq_str ha (by decide +kernel)]
  by_cases e : a = "on"
  · subst e; simp
  · simp [e]
/-- behind the switch's words -/
theorem lact_ok {ws all : List Str} (h : Wds ws) {z : D} {w : Str} {sw : D} {x4 x5 : Sl} : fin (exs (dropS 3 B__law_wire_of) [.d z, .d (.lst (.str w :: all.map .str)), .d sw, .d (.lst (ws.map .str)), x4, x5] μ) = some (.ok (.tup [.str w, sw, actW ws]), μ) := by
  have hc := comp_part (μ := μ) (F := F_law_part) (fun z hz _ => lpart_ok hz) h (δ := [.d z, .d (.lst (.str w :: all.map .str)), .d sw, .d (.lst (ws.map .str)), x4, .un]) (i := 5) (by simp)
  cases ws with
  | nil =>
    simp at hc
    simp [dropS, B__law_wire_of, kcomp, wipeS, hc, cut01n, in_lon0, eq_lprint0, actW, szL]
  | cons a r =>
    have ha := h.ok a List.mem_cons_self
    have hn := h.n
    have z1 : 1 + r.length ≤ 16777216 := by simp at hn; omega
    have z2 : 1 + r.length + 1 ≤ 16777216 := by simp at hn; omega
    have z3 : r.length + 1 + 1 ≤ 16777216 := by simp at hn; omega
    have h1 := in_lon (μ := μ) ha
    have h2 := eq_on2 (μ := μ) ha
    have h3 := eq_lprint (μ := μ) ha
    simp at hc
    by_cases q : a = "on" ∨ a = "off"
    · rw [decide_eq_true q] at h1
      have e : actW (a :: r) = .tup (.str "set" :: (r.map partD ++ [.bl (decide (a = "on"))])) := if_pos q
      rw [e]
      simp [dropS, B__law_wire_of, kcomp, wipeS, hc, cut01, cut1, h1, h2, szL, z1, z2, z3]
    · rw [decide_eq_false q] at h1
      by_cases p : a = "print"
      · rw [decide_eq_true p] at h3
        have e : actW (a :: r) = .tup [.str "print", .tup (r.map partD)] := (if_neg q).trans (if_pos p)
        rw [e]
        simp [dropS, B__law_wire_of, kcomp, wipeS, hc, cut01, cut1, h1, h3, szL]
      · rw [decide_eq_false p] at h3
        have e : actW (a :: r) = .tup ((a :: r).map partD) := (if_neg q).trans (if_neg p)
        rw [e]
        simp [dropS, B__law_wire_of, kcomp, wipeS, hc, cut01, cut1, h1, h3, szL]
theorem lwire_ok {z : Str} (hl : z.length ≤ 900000) (h : Wds (Txt.split z " ")) (hne : Txt.split z " " ≠ []) : F_law_wire_of [.str z] μ = some (.ok (wireW (Txt.split z " ")), μ) := by
  have hsp : Bi.do .split μ [.str z, .str " "] = some (.lst ((Txt.split z " ").map .str)) := by
    show (if (!((" " : Str).length == 0) && decide (z.length + 2 ≤ sizeLine)) = true then some (D.lst ((Txt.split z " ").map .str)) else none) = _
    have e0 : ((" " : Str).length == 0) = false := by decide +kernel
    rw [e0, szL, if_pos (by simp; omega)]
  generalize Txt.split z " " = ws at hsp h hne ⊢
  match ws, h, hne with
  | [w], h, _ =>
    have e : wireW [w] = .tup [.str w, .non, actW []] := rfl
    rw [e, ← lact_ok (μ := μ) (ws := []) (all := []) (z := .str z) (w := w) (sw := .non) (x4 := .un) (x5 := .un) ⟨by simp, by simp, by simp⟩]
    simp at hsp
    simp [F_law_wire_of, B__law_wire_of, go, hsp, cut1, cut01n, in_lif0, szL]
    simp [dropS]
  | [w, i], h, _ =>
    have e : wireW [w, i] = .tup [.str w, .non, actW [i]] := rfl
    rw [e, ← lact_ok (μ := μ) (ws := [i]) (all := [i]) (z := .str z) (w := w) (sw := .non) (x4 := .un) (x5 := .un) h.tl]
    have hi := in_lif (μ := μ) (h.ok i (by simp))
    simp at hsp
    cases q : decide (i = "if" ∨ i = "unless") <;> rw [q] at hi <;> simp [F_law_wire_of, B__law_wire_of, go, hsp, cut1, cut01, hi, szL] <;> simp [dropS]
  | w :: i :: n :: r, h, _ =>
    have hi := in_lif (μ := μ) (h.ok i (by simp))
    have he := eq_if2 (μ := μ) (h.ok i (by simp))
    have hp := lpart_ok (μ := μ) (h.ok n (by simp))
    have t3 : (1 : Int) < (r.length : Int) + 1 + 1 := by omega
    simp at hsp
    by_cases q : i = "if" ∨ i = "unless"
    · rw [decide_eq_true q] at hi
      have e : wireW (w :: i :: n :: r) = .tup [.str w, .tup [partD n, .bl (decide (i = "if"))], actW r] := if_pos q
      rw [e, ← lact_ok (μ := μ) (ws := r) (all := i :: n :: r) (z := .str z) (w := w) (sw := .tup [partD n, .bl (decide (i = "if"))]) (x4 := .un) (x5 := .un) h.tl.tl.tl]
      simp [F_law_wire_of, B__law_wire_of, go, hsp, t3, hi, he, hp, cut1, cut01, cut2b, szL]
      simp [dropS]
    · rw [decide_eq_false q] at hi
      have e : wireW (w :: i :: n :: r) = .tup [.str w, .non, actW (i :: n :: r)] := if_neg q
      rw [e, ← lact_ok (μ := μ) (ws := i :: n :: r) (all := i :: n :: r) (z := .str z) (w := w) (sw := .non) (x4 := .un) (x5 := .un) h.tl]
      simp [F_law_wire_of, B__law_wire_of, go, hsp, hi, cut1, cut01, szL]
      simp [dropS]
end
end K7
set_option Elab.async false
set_option linter.all false
set_option maxRecDepth 100000
set_option maxHeartbeats 4000000
/-! K7c: texts cut into parts; wires told from their words. -/
namespace K7
open PySem L2 Mi Pg Ev Dr Mm Kv
/-! ### texts cut -/
theorem pre_one {s c : Nat} {r : List Nat} : TL.pre [s] (c :: r) = (c == s) := by
  show ((c :: r).take 1 == [s]) = _
  simp
theorem spl_hit1 {s : Nat} {acc r : List Nat} : TL.spl [s] 0 acc (s :: r) = acc :: TL.spl [s] 0 [] r := TL.spl_hit (by rw [pre_one]; simp)
theorem spl_miss1 {s c : Nat} {acc r : List Nat} (h : c ≠ s) : TL.spl [s] 0 acc (c :: r) = TL.spl [s] 0 (acc ++ [c]) r := TL.spl_miss (by rw [pre_one]; simp [h])
theorem spl_ne {s : Nat} : ∀ (l acc : List Nat), TL.spl [s] 0 acc l ≠ []
  | [], acc => by rw [TL.spl_nil]; simp
  | c :: r, acc => by
    by_cases h : c = s
    · subst h; rw [spl_hit1]; simp
    · rw [spl_miss1 h]; exact spl_ne r _
theorem spl_sum {s : Nat} : ∀ (l acc : List Nat), ((TL.spl [s] 0 acc l).map List.length).sum + (TL.spl [s] 0 acc l).length = acc.length + l.length + 1
  | [], acc => by rw [TL.spl_nil]; simp
  | c :: r, acc => by
    by_cases h : c = s
    · subst h
      rw [spl_hit1]
      have := spl_sum (s := c) r []
      simp at this ⊢
      omega
    · rw [spl_miss1 h]
      have := spl_sum (s := s) r (acc ++ [c])
      simp at this ⊢
      omega
theorem spl_mem {s : Nat} : ∀ (l acc : List Nat), ∀ p ∈ TL.spl [s] 0 acc l, ∀ c ∈ p, c ∈ acc ∨ c ∈ l
  | [], acc, p, hp, c, hc => by
    rw [TL.spl_nil] at hp
    simp at hp
    subst hp
    exact .inl hc
  | d :: r, acc, p, hp, c, hc => by
    by_cases h : d = s
    · subst h
      rw [spl_hit1] at hp
      rcases List.mem_cons.mp hp with rfl | hp
      · exact .inl hc
      · rcases spl_mem r [] p hp c hc with q | q
        · cases q
        · exact .inr (List.mem_cons_of_mem _ q)
    · rw [spl_miss1 h] at hp
      rcases spl_mem r _ p hp c hc with q | q
      · rcases List.mem_append.mp q with q | q
        · exact .inl q
        · exact .inr (List.mem_singleton.mp q ▸ List.mem_cons_self)
      · exact .inr (List.mem_cons_of_mem _ q)
theorem spl_joinL {s : Nat} : ∀ (l acc : List Nat), TL.joinL [s] (TL.spl [s] 0 acc l) = acc ++ l
  | [], acc => by rw [TL.spl_nil]; simp [TL.joinL]
  | c :: r, acc => by
    by_cases h : c = s
    · subst h
      rw [spl_hit1]
      have ih := spl_joinL (s := c) r []
      have hne := spl_ne (s := c) r []
      generalize TL.spl [c] 0 [] r = q at ih hne ⊢
      cases q with
      | nil => exact absurd rfl hne
      | cons a b =>
        show acc ++ ([c] ++ TL.joinL [c] (a :: b)) = _
        rw [ih]; simp
    · rw [spl_miss1 h, spl_joinL r]; simp
structure Cut (z y : Str) : Prop where
  ne : Txt.split z y ≠ []
  sum : ((Txt.split z y).map (·.length)).sum + (Txt.split z y).length = z.length + 1
  mem : ∀ w ∈ Txt.split z y, ∀ c ∈ TL.tl w, c ∈ TL.tl z
  join : Txt.join y (Txt.split z y) = z
theorem cut_of {z y : Str} {s : Nat} (ey : TL.tl y = [s]) (hk : y.cps.all (· < 256) = true) : Cut z y := by
  have e := TL.split_spl z y (by rw [ey]; simp) (TL.kind_ok hk)
  rw [ey] at e
  refine ⟨fun h => ?_, ?_, fun w hw c hc => ?_, ?_⟩
  · rw [h] at e
    exact spl_ne _ _ e.symm
  · have h1 := spl_sum (s := s) (TL.tl z) []
    rw [← e] at h1
    rw [List.map_map, List.length_map] at h1
    rw [TL.len_tl z]
    have e2 : (List.length ∘ TL.tl) = fun w : Str => w.length := by
      funext w
      exact (TL.len_tl w).symm
    rw [e2] at h1
    simpa using h1
  · have hm : TL.tl w ∈ TL.spl [s] 0 [] (TL.tl z) := by rw [← e]; exact List.mem_map_of_mem hw
    rcases spl_mem _ _ _ hm c hc with q | q
    · cases q
    · exact q
  · refine TL.ext_tl ?_
    rw [TL.join_eq, TL.tl_join, ey, e, spl_joinL, List.nil_append]
theorem cut_sp (z : Str) : Cut z " " := cut_of (s := 32) (by decide +kernel) (by decide +kernel)
theorem cut_nl (z : Str) : Cut z "\n" := cut_of (s := 10) (by decide +kernel) (by decide +kernel)
theorem le_sum {l : List Nat} {n : Nat} (h : n ∈ l) : n ≤ l.sum := by
  induction l with
  | nil => cases h
  | cons a l ih =>
    rcases List.mem_cons.mp h with rfl | h
    · simp
    · have := ih h; simp; omega
theorem Cut.len {z y : Str} (h : Cut z y) : ∀ w ∈ Txt.split z y, w.length ≤ z.length := fun w hw => by
  have h1 := h.sum
  have h2 : w.length ≤ ((Txt.split z y).map (·.length)).sum := le_sum (List.mem_map.mpr ⟨w, hw, rfl⟩)
  have h3 : 0 < (Txt.split z y).length := List.length_pos_of_mem hw
  omega
theorem Cut.cnt {z y : Str} (h : Cut z y) : (Txt.split z y).length ≤ z.length + 1 := by
  have h1 := h.sum
  omega
theorem Cut.sok {z y : Str} (h : Cut z y) (hz : PyData.strOk z = true) : ∀ w ∈ Txt.split z y, PyData.strOk w = true := fun w hw => (Dr.sok w).mpr fun c hc => (Dr.sok z).mp hz c (h.mem w hw c hc)
theorem wds_of {z : Str} (hz : PyData.strOk z = true) (hl : z.length ≤ 900000) : Wds (Txt.split z " ") :=
  ⟨(cut_sp z).sok hz, fun w hw => by have := (cut_sp z).len w hw; omega, by have := (cut_sp z).cnt; omega⟩
/-! ### what is a wire has a wire -/
theorem when_inv {w : Str} (h : timeB w = true) : ∃ W : When, W.t = w ∧ cardyB w = W.cardy := by
  simp only [timeB, Bool.or_eq_true, beq_iff_eq] at h
  rcases h with (((rfl | rfl) | rfl) | rfl) | rfl
  · exact ⟨.card, rfl, by decide +kernel⟩
  · exact ⟨.hole, rfl, by decide +kernel⟩
  · exact ⟨.plain, rfl, by decide +kernel⟩
  · exact ⟨.minor, rfl, by decide +kernel⟩
  · exact ⟨.major, rfl, by decide +kernel⟩
theorem whole_nat {d : D} {n : Nat} (h : wholeB 0 ((n : Int) - 1) d = true) : ∃ i : Nat, d = .int i ∧ i < n := by
  obtain ⟨i, rfl, h1, h2⟩ := whole_int h
  obtain ⟨j, rfl⟩ := Int.eq_ofNat_of_zero_le h1
  exact ⟨j, rfl, by omega⟩
theorem src_inv {W : When} {w : Str} (hw : cardyB w = W.cardy) {nc : Nat} {d : D} (h : srcB nc w d = true) : ∃ s : Src, d = s.d ∧ s.ok nc W := by
  cases d with
  | str z =>
    simp only [srcB, Bool.and_eq_true, Bool.or_eq_true, beq_iff_eq] at h
    rcases h with ⟨rfl | rfl, h2⟩
    · exact ⟨.x, rfl, hw.symm.trans h2⟩
    · exact ⟨.y, rfl, hw.symm.trans h2⟩
  | _ =>
    unfold srcB at h
    obtain ⟨i, e, hi⟩ := whole_nat h
    exact ⟨.c i, e, hi⟩
theorem srcs_inv {W : When} {w : Str} (hw : cardyB w = W.cardy) {nc : Nat} : ∀ {ds : List D}, ds.all (srcB nc w) = true → ∃ ss : List Src, ds = ss.map Src.d ∧ ∀ s ∈ ss, s.ok nc W
  | [], _ => ⟨[], rfl, by simp⟩
  | d :: ds, h => by
    rw [List.all_cons, Bool.and_eq_true] at h
    obtain ⟨s, rfl, hs⟩ := src_inv hw h.1
    obtain ⟨ss, rfl, hss⟩ := srcs_inv hw h.2
    exact ⟨s :: ss, rfl, by
      intro x hx
      rcases List.mem_cons.mp hx with rfl | hx
      · exact hs
      · exact hss x hx⟩
theorem act_inv {W : When} {w : Str} (hw : cardyB w = W.cardy) {nc ns : Nat} {d : D} (h : actB nc ns w d = true) : ∃ a : Dr.Act, d = a.d ∧ a.ok nc ns W := by
  unfold actB at h
  split at h
  · split at h
    · rename_i z a e
      obtain ⟨i, rfl, hi⟩ := whole_nat h
      rw [beq_iff_eq] at e
      subst e
      exact ⟨.clear i, rfl, hi⟩
    · split at h
      · rename_i z a _ e
        rw [beq_iff_eq] at e
        subst e
        unfold printB at h
        split at h
        · simp only [Bool.and_eq_true, decide_eq_true_eq] at h
          obtain ⟨ss, rfl, hs⟩ := srcs_inv hw h.2
          exact ⟨.print ss, rfl, by simpa using h.1.1, by simpa using h.1.2, hs⟩
        · cases h
      · cases h
  · split at h
    · rename_i z a b e
      rw [Bool.and_eq_true] at h
      obtain ⟨s, rfl, hs⟩ := src_inv hw h.1
      obtain ⟨i, rfl, hi⟩ := whole_nat h.2
      rw [Bool.or_eq_true, beq_iff_eq, beq_iff_eq] at e
      rcases e with rfl | rfl
      · exact ⟨.add false s i, rfl, hs, hi⟩
      · exact ⟨.add true s i, rfl, hs, hi⟩
    · split at h
      · rename_i z a b _ e
        rw [beq_iff_eq] at e
        subst e
        rw [Bool.and_eq_true] at h
        obtain ⟨i, rfl, hi⟩ := whole_nat h.1
        cases b with
        | bl q => exact ⟨.set i q, rfl, hi⟩
        | _ => exact absurd h.2 (by simp [isBl])
      · cases h
  · cases h
theorem sw_inv {ns : Nat} {d : D} (h : swB ns d = true) : ∃ s : Option (Nat × Bool), d = swD s ∧ ∀ i b, s = some (i, b) → i < ns := by
  unfold swB at h
  split at h
  · exact ⟨none, rfl, by simp⟩
  · obtain ⟨i, rfl, hi⟩ := whole_nat h
    exact ⟨some (i, _), rfl, by
      intro j c e
      cases e
      exact hi⟩
  · cases h
theorem wire_inv {nc ns : Nat} {d : D} (h : wireB nc ns d = true) : ∃ a : Wire, d = a.d ∧ a.ok nc ns := by
  unfold wireB at h
  split at h
  · simp only [Bool.and_eq_true] at h
    obtain ⟨W, rfl, hW⟩ := when_inv h.1
    obtain ⟨s, rfl, hs⟩ := sw_inv h.2.1
    obtain ⟨a, rfl, ha⟩ := act_inv hW h.2.2
    exact ⟨⟨W, s, a⟩, by simp [Wire.d, When.d_t], hs, ha⟩
  · cases h
/-! ### and its words -/
theorem part_src {z : Str} {s : Src} (h : partD z = s.d) : z = s.t := by
  cases s with
  | x => exact part_str h
  | y => exact part_str h
  | c i =>
    obtain ⟨k, h1, h2, h3⟩ := part_int h
    have : i = k := by omega
    subst this
    exact h3
theorem part_srcs : ∀ {r : List Str} {ss : List Src}, r.map partD = ss.map Src.d → r = ss.map Src.t
  | [], [], _ => rfl
  | [], _ :: _, h => by simp at h
  | _ :: _, [], h => by simp at h
  | z :: r, s :: ss, h => by
    simp only [List.map_cons, List.cons.injEq] at h
    rw [part_src h.1, part_srcs h.2]
    rfl
theorem part_nat {z : Str} {i : Nat} (h : partD z = .int i) : z = dg i := part_src (s := .c i) h
theorem part_nbl {z : Str} {b : Bool} : partD z ≠ .bl b := by
  rcases part_cases z with ⟨k, _, _, h⟩ | ⟨h, _⟩ <;> rw [h] <;> simp
theorem part_ntup {z : Str} {xs : List D} : partD z ≠ .tup xs := by
  rcases part_cases z with ⟨k, _, _, h⟩ | ⟨h, _⟩ <;> rw [h] <;> simp
theorem actW_words {ws : List Str} {a : Dr.Act} (h : actW ws = Dr.Act.d a) : ws = a.ws := by
  cases ws with
  | nil => cases a <;> simp [actW, Act.d] at h
  | cons z r =>
    by_cases q : z = "on" ∨ z = "off"
    · rw [show actW (z :: r) = .tup (.str "set" :: (r.map partD ++ [.bl (decide (z = "on"))])) from if_pos q] at h
      cases a with
      | add l s i =>
        cases l
        · exact absurd (show ("set" : Str) = "add" by injection h with h; injection h with h; injection h) (by decide +kernel)
        · exact absurd (show ("set" : Str) = "less" by injection h with h; injection h with h; injection h) (by decide +kernel)
      | clear i => exact absurd (show ("set" : Str) = "clear" by injection h with h; injection h with h; injection h) (by decide +kernel)
      | print ss => exact absurd (show ("set" : Str) = "print" by injection h with h; injection h with h; injection h) (by decide +kernel)
      | set i b =>
        injection h with h
        injection h with _ h
        match r, h with
        | [], h => simp at h
        | [x], h =>
          simp at h
          rw [part_nat h.1]
          rcases q with rfl | rfl
          · have : b = true := by rw [← h.2]; decide +kernel
            subst this; rfl
          · have : b = false := by rw [← h.2]; decide +kernel
            subst this; rfl
        | x :: y :: t, h => simp at h
    · by_cases p : z = "print"
      · rw [show actW (z :: r) = .tup [.str "print", .tup (r.map partD)] from (if_neg q).trans (if_pos p)] at h
        cases a with
        | add l s i => simp [Act.d] at h
        | clear i => simp [Act.d] at h
        | set i b => simp [Act.d] at h
        | print ss =>
          simp [Act.d] at h
          subst p
          have e : r = ss.map Src.t := part_srcs h
          rw [e]
          rfl
      · rw [show actW (z :: r) = .tup ((z :: r).map partD) from (if_neg q).trans (if_neg p)] at h
        cases a with
        | add l s i =>
          match r, h with
          | [], h => simp [Act.d] at h
          | [x], h => simp [Act.d] at h
          | [x, y], h =>
            simp only [Act.d, List.map_cons, List.map_nil, D.tup.injEq, List.cons.injEq, and_true] at h
            rw [part_str h.1, part_src h.2.1, part_nat h.2.2]
            rfl
          | x :: y :: t :: u, h => simp [Act.d] at h
        | clear i =>
          match r, h with
          | [], h => simp [Act.d] at h
          | [x], h =>
            simp only [Act.d, List.map_cons, List.map_nil, D.tup.injEq, List.cons.injEq, and_true] at h
            rw [part_str h.1, part_nat h.2]
            rfl
          | x :: y :: t, h => simp [Act.d] at h
        | set i b =>
          match r, h with
          | [], h => simp [Act.d] at h
          | [x], h => simp [Act.d] at h
          | [x, y], h =>
            simp only [Act.d, List.map_cons, List.map_nil, D.tup.injEq, List.cons.injEq, and_true] at h
            exact absurd h.2.2 part_nbl
          | x :: y :: t :: u, h => simp [Act.d] at h
        | print ss =>
          match r, h with
          | [], h => simp [Act.d] at h
          | [x], h =>
            simp only [Act.d, List.map_cons, List.map_nil, D.tup.injEq, List.cons.injEq, and_true] at h
            exact absurd h.2 part_ntup
          | x :: y :: t, h => simp [Act.d] at h
theorem wireW_words {ws : List Str} {a : Wire} (h : wireW ws = a.d) : ws = a.ws := by
  have hd : a.d = .tup [.str a.when.t, swD a.sw, a.act.d] := by rw [Wire.d, When.d_t]
  rw [hd] at h
  have none_case : ∀ {w : Str} {r : List Str}, D.tup [.str w, .non, actW r] = .tup [.str a.when.t, swD a.sw, a.act.d] → w :: r = a.ws := by
    intro w r h
    injection h with h
    injection h with h1 h
    injection h with h2 h
    injection h with h3 _
    injection h1 with h1
    have hs : a.sw = none := by
      cases e : a.sw with
      | none => rfl
      | some p => rw [e] at h2; cases h2
    rw [h1, actW_words h3]
    simp [Wire.ws, hs, swW]
  match ws, h with
  | [], h => cases h
  | [w], h => exact none_case h
  | [w, i], h => exact none_case h
  | w :: i :: n :: r, h =>
    by_cases q : i = "if" ∨ i = "unless"
    · rw [show wireW (w :: i :: n :: r) = .tup [.str w, .tup [partD n, .bl (decide (i = "if"))], actW r] from if_pos q] at h
      injection h with h
      injection h with h1 h
      injection h with h2 h
      injection h with h3 _
      injection h1 with h1
      cases e : a.sw with
      | none => rw [e] at h2; cases h2
      | some p =>
        obtain ⟨j, b⟩ := p
        rw [e] at h2
        injection h2 with h2
        injection h2 with h4 h2
        injection h2 with h5 _
        injection h5 with h5
        rw [h1, part_nat h4, actW_words h3]
        have hi : i = if b = true then "if" else "unless" := by
          rcases q with rfl | rfl
          · have : b = true := by rw [← h5]; decide +kernel
            subst this; rfl
          · have : b = false := by rw [← h5]; decide +kernel
            subst this; rfl
        rw [hi]
        cases b <;> simp [Wire.ws, e, swW]
    · rw [show wireW (w :: i :: n :: r) = .tup [.str w, .non, actW (i :: n :: r)] from if_neg q] at h
      exact none_case h
/-- a line whose wire is one writes back -/
theorem line_back {z : Str} {nc ns : Nat} (h : wireB nc ns (wireW (Txt.split z " ")) = true) : ∃ a : Wire, wireW (Txt.split z " ") = a.d ∧ a.ok nc ns ∧ a.t = z := by
  obtain ⟨a, e, ha⟩ := wire_inv h
  refine ⟨a, e, ha, ?_⟩
  rw [Wire.t, ← wireW_words e]
  exact (cut_sp z).join
end K7
set_option Elab.async false
set_option linter.all false
set_option maxRecDepth 100000
set_option maxHeartbeats 4000000
/-! K7d: texts read, by the program and by the law. -/
namespace K7
open PySem L2 Mi Pg Ev Dr Mm Kv
def natOf : D → Nat
  | .int i => i.toNat
  | _ => 0
def wireOf (l : Str) : D := wireW (Txt.split l " ")
def headW : List Str → Option (Nat × Nat)
  | [b, x, y] => if b = "board" ∧ boardB (.tup [partD x, partD y, .tup []]) = true then some (natOf (partD x), natOf (partD y)) else none
  | _ => none
def badAt (nc ns : Int) : Nat → List D → Option Int
  | _, [] => none
  | k, d :: ds => if wireB nc ns d = true then badAt nc ns (k + 1) ds else some (k + 2)
def readD (z : Str) : D := match Txt.split z "\n" with
  | [] => .int 1
  | l :: ls => match headW (Txt.split l " ") with
    | none => .int 1
    | some (a, b) => match badAt a b 0 (ls.map wireOf) with
      | some i => .int i
      | none => if ls.length ≤ 8 then .tup [.int a, .int b, .tup (ls.map wireOf)] else .int 10
theorem boardB_nats {a b : D} (h : boardB (.tup [a, b, .tup []]) = true) : a = .int (natOf a) ∧ b = .int (natOf b) ∧ natOf a ≤ 3 ∧ natOf b ≤ 2 := by
  unfold boardB at h
  split at h
  · rename_i e
    injection e with e
    injection e with e1 e
    injection e with e2 e
    subst e1; subst e2
    simp only [Bool.and_eq_true, wholeB, decide_eq_true_eq] at h
    simp only [natOf, D.int.injEq]
    omega
  · cases h
theorem actW_ok {ws : List Str} (h : Wds ws) (n : Nat) : okN (n + 2) (actW ws) = true := by
  cases ws with
  | nil => rfl
  | cons a r =>
    have hr := parts_ok h.tl
    have ha := part_ok (h.ok a List.mem_cons_self)
    by_cases q : a = "on" ∨ a = "off"
    · rw [show actW (a :: r) = .tup (.str "set" :: (r.map partD ++ [.bl (decide (a = "on"))])) from if_pos q]
      show okNs (n + 1) _ = true
      refine okNs_all fun x hx => ?_
      rcases List.mem_cons.mp hx with rfl | hx
      · exact ok_str _ _ (by decide +kernel)
      · rcases List.mem_append.mp hx with hx | hx
        · exact okNs_mem (hr _) x hx
        · rw [List.mem_singleton.mp hx]; rfl
    · by_cases p : a = "print"
      · rw [show actW (a :: r) = .tup [.str "print", .tup (r.map partD)] from (if_neg q).trans (if_pos p)]
        have h0 : okN (n + 1) (.str "print") = true := ok_str _ _ (by decide +kernel)
        have h1 : okN (n + 1) (.tup (r.map partD)) = true := hr n
        show okNs (n + 1) [.str "print", .tup (r.map partD)] = true
        simp [okNs, h0, h1]
      · rw [show actW (a :: r) = .tup ((a :: r).map partD) from (if_neg q).trans (if_neg p)]
        exact parts_ok h (n + 1)
theorem wireW_ok {ws : List Str} (h : Wds ws) (n : Nat) : okN (n + 4) (wireW ws) = true := by
  have hs : ∀ w : Str, w ∈ ws → okN (n + 3) (.str w) = true := fun w hw => ok_str _ _ (h.ok _ hw)
  have two : ∀ {w : Str} {a : D}, okN (n + 3) (.str w) = true → okN (n + 3) a = true → okN (n + 4) (.tup [.str w, .non, a]) = true := by
    intro w a h1 h2
    show okNs (n + 3) _ = true
    have h3 : okN (n + 3) .non = true := rfl
    simp only [okNs, h1, h2, h3, Bool.and_true]
  match ws, h, hs with
  | [], _, _ => rfl
  | [w], h, hs => exact two (hs _ (by simp)) (actW_ok h.tl (n + 1))
  | [w, i], h, hs => exact two (hs _ (by simp)) (actW_ok h.tl (n + 1))
  | w :: i :: m :: r, h, hs =>
    by_cases q : i = "if" ∨ i = "unless"
    · rw [show wireW (w :: i :: m :: r) = .tup [.str w, .tup [partD m, .bl (decide (i = "if"))], actW r] from if_pos q]
      show okNs (n + 3) _ = true
      have h1 := hs w (by simp)
      have h2 := actW_ok h.tl.tl.tl (n + 1)
      have h3 : okN (n + 3) (.tup [partD m, .bl (decide (i = "if"))]) = true := by
        show okNs (n + 2) _ = true
        have h4 := part_ok (h.ok m (by simp)) (n + 2)
        have h5 : okN (n + 2) (.bl (decide (i = "if"))) = true := rfl
        simp only [okNs, h4, h5, Bool.and_true]
      simp only [okNs, h1, h2, h3, Bool.and_true]
    · rw [show wireW (w :: i :: m :: r) = .tup [.str w, .non, actW (i :: m :: r)] from if_neg q]
      exact two (hs _ (by simp)) (actW_ok h.tl (n + 1))
/-- lines of a text -/
structure Lns (ls : List Str) : Prop where
  ok : ∀ z ∈ ls, PyData.strOk z = true
  ln : ∀ z ∈ ls, z.length ≤ 200000
  n : ls.length ≤ 200001
theorem Lns.tl {w : Str} {ws : List Str} (h : Lns (w :: ws)) : Lns ws := ⟨fun z hz => h.ok z (List.mem_cons_of_mem _ hz), fun z hz => h.ln z (List.mem_cons_of_mem _ hz), by have := h.n; simp at this; omega⟩
theorem Lns.wds {ls : List Str} (h : Lns ls) : ∀ l ∈ ls, Wds (Txt.split l " ") := fun l hl => wds_of (h.ok l hl) (by have := h.ln l hl; omega)
theorem wires_ok {ls : List Str} (h : Lns ls) (n : Nat) : okNs (n + 4) (ls.map wireOf) = true := okNs_all fun x hx => by
  obtain ⟨l, hl, rfl⟩ := List.mem_map.mp hx
  exact wireW_ok (h.wds l hl) n
theorem lns_of {z : Str} (hz : PyData.strOk z = true) (hl : z.length ≤ 200000) : Lns (Txt.split z "\n") :=
  ⟨(cut_nl z).sok hz, fun w hw => by have := (cut_nl z).len w hw; omega, by have := (cut_nl z).cnt; omega⟩
theorem readD_ok {z : Str} (hz : PyData.strOk z = true) (hl : z.length ≤ 200000) : okN 64 (readD z) = true := by
  have h := lns_of hz hl
  unfold readD
  split
  · rfl
  · rename_i l ls e
    rw [e] at h
    split
    · rfl
    · split
      · rfl
      · split
        · have := wires_ok h.tl 58
          simp only [okN, okNs, this, Bool.and_true]
        · rfl
/-! ### an error with a number -/
def kraisep (c : Str) (δ : List Sl) : D → List Mo → SM := fun x μ => match x with
  | .int i => some (.ex (c, some (.int i)), δ, μ)
  | _ => none
@[simp] theorem x_raisep {c : Str} {e : E} {δ : List Sl} {μ : List Mo} : ex (.raisep c e) δ μ = Ev.thenE (ev e δ μ) δ (kraisep c δ) := by simp only [ex]; rfl
@[simp] theorem kraisep_i {c : Str} {i : Int} {δ : List Sl} {μ : List Mo} : kraisep c δ (.int i) μ = some (.ex (c, some (.int i)), δ, μ) := rfl
/-! ### the turns with numbers -/
def enumF (k : Nat) (ds : List D) : List D := (List.range' k ds.length).zipWith (fun (i : Nat) d => D.tup [.int i, d]) ds
theorem enum_F (ds : List D) : enumD ds = enumF 0 ds := by
  unfold enumD enumF
  rw [List.range_eq_range']
theorem enumF_cons (k : Nat) (d : D) (ds : List D) : enumF k (d :: ds) = .tup [.int k, d] :: enumF (k + 1) ds := by
  unfold enumF
  rw [List.length_cons, List.range'_succ]
  rfl
section
variable {μ : List Mo}
theorem split_big {z y : Str} (h : z.length ≤ 900000) (hy : (y.length == 0) = false) : Bi.do .split μ [.str z, .str y] = some (.lst ((Txt.split z y).map .str)) := by
  show (if (!(y.length == 0) && decide (z.length + 2 ≤ sizeLine)) = true then some (D.lst ((Txt.split z y).map .str)) else none) = _
  rw [hy, szL, if_pos (by simp; omega)]
theorem phead_ok {l : Str} (hz : PyData.strOk l = true) (hl : l.length ≤ 900000) : Fhead_of [.str l] μ = some (.ok (match headW (Txt.split l " ") with
    | some (a, b) => .tup [.int a, .int b, .tup []]
    | none => .non), μ) := by
  have hsp := split_big (μ := μ) (z := l) (y := " ") hl (by decide +kernel)
  have h := wds_of hz hl
  generalize Txt.split l " " = ws at hsp h ⊢
  have len3 : ∀ {ws : List Str}, ws.length ≠ 3 → headW ws = none := by
    intro ws hn
    unfold headW
    split
    · exact absurd rfl hn
    · rfl
  by_cases hn : ws.length = 3
  · match ws, hn, h with
    | [b, x, y], _, h =>
      have hb := eq_str (μ := μ) (h.ok b (by simp)) (show PyData.strOk ("board" : Str) = true by decide +kernel)
      have hx := ppart_ok (μ := μ) (h.ln x (by simp))
      have hy := ppart_ok (μ := μ) (h.ln y (by simp))
      have hok : okN 5 (.tup [partD x, partD y, .tup []]) = true := by
        have h1 := part_ok (h.ok x (by simp)) 4
        have h2 := part_ok (h.ok y (by simp)) 4
        have h3 : okN 4 (.tup []) = true := rfl
        show okNs 4 _ = true
        simp only [okNs, h1, h2, h3, Bool.and_true]
      have hB := board_B (μ := μ) hok (by omega) (fun a b ws e => by injection e with e; injection e with _ e; injection e with _ e; injection e with e _; injection e with e; subst e; simp)
      simp at hsp
      by_cases q : b = "board"
      · subst q
        have hbe : eqD μ (.str "board") (.str "board") = some true := eq_bb
        by_cases p : boardB (.tup [partD x, partD y, .tup []]) = true
        · have e : headW ["board", x, y] = some (natOf (partD x), natOf (partD y)) := if_pos ⟨rfl, p⟩
          rw [e]
          rw [p] at hB
          obtain ⟨e1, e2, _, _⟩ := boardB_nats p
          simp [Fhead_of, B_head_of, go, hsp, hbe, szL, hx, hy, hB]
          exact ⟨e1, e2⟩
        · have e : headW ["board", x, y] = none := if_neg fun c => p c.2
          rw [e]
          rw [Bool.not_eq_true] at p
          rw [p] at hB
          simp [Fhead_of, B_head_of, go, hsp, hbe, szL, hx, hy, hB]
      · have e : headW [b, x, y] = none := if_neg fun c => q c.1
        rw [e]
        have hbe : eqD μ (.str b) (.str "board") = some false := by rw [hb]; simp [q]
        simp [Fhead_of, B_head_of, go, hsp, hbe, szL]
  · rw [len3 hn]
    have hn2 : ¬ ((ws.length : Int) = 3) := by omega
    simp [Fhead_of, B_head_of, go, hsp, hn2, szL]
theorem ploop {nc ns : Nat} {r : D} : ∀ (ds : List D) (k : Nat) (a b c d e f : Sl), okNs 50 ds = true →
    ∃ d' e', forL (.pair (.name 4) (.name 5)) (exs (.cons (.ite (.not_ (.call Fis_wire (.cons (.var 2) (.cons (.var 5) .nil)))) (.cons (.raisep "InvalidText" (.op .add (.var 4) (.con (.int (2))))) .nil) .nil) .nil)) (enumF k ds) [a, b, .d (.tup [.int nc, .int ns, r]), c, d, e, f] μ = (match badAt nc ns k ds with
      | some i => some (.ex ("InvalidText", some (.int i)), [a, b, .d (.tup [.int nc, .int ns, r]), c, d', e', f], μ)
      | none => some (.nx, [a, b, .d (.tup [.int nc, .int ns, r]), c, d', e', f], μ))
  | [], k, a, b, c, d, e, f, _ => ⟨d, e, by simp [enumF, forL, badAt]⟩
  | x :: xs, k, a, b, c, d, e, f, h => by
    simp only [okNs, Bool.and_eq_true] at h
    have hw := wire_B (μ := μ) h.1 (by omega) (nc := nc) (ns := ns) (r := r)
    rw [enumF_cons]
    by_cases q : wireB nc ns x = true
    · obtain ⟨d', e', ih⟩ := ploop (r := r) xs (k + 1) a b c (.d (.int k)) (.d x) f h.2
      refine ⟨d', e', ?_⟩
      rw [q] at hw
      rw [show badAt nc ns k (x :: xs) = badAt nc ns (k + 1) xs from if_pos q, ← ih]
      simp [forL, hw]
    · refine ⟨.d (.int k), .d x, ?_⟩
      rw [show badAt nc ns k (x :: xs) = some ((k : Int) + 2) from if_neg q]
      rw [Bool.not_eq_true] at q
      rw [q] at hw
      simp [forL, hw]
def B_loop : Ss := match B__law_due__2 with
  | .cons _ (.cons _ (.cons _ (.cons _ (.cons _ (.cons _ (.cons (.for_ _ _ b) _)))))) => b
  | _ => .nil
theorem lloop {nc ns : Nat} (hc : nc ≤ 3) (hs : ns ≤ 2) : ∀ (ls : List Str) (k : Nat) (acc : List D) (a b c e f g h : Sl), Lns ls → acc.length + ls.length ≤ 300000 →
    ∃ e' f' g' h', forL (.pair (.name 5) (.name 6)) (exs B_loop) (enumF k (ls.map .str)) [a, b, c, .d (.tup [.int nc, .int ns]), .d (.tup acc), e, f, g, h] μ = (match badAt nc ns k (ls.map wireOf) with
      | some i => some (.rt (.int i), e', μ)
      | none => some (.nx, [a, b, c, .d (.tup [.int nc, .int ns]), .d (.tup (acc ++ ls.map wireOf)), f', g', h', h], μ))
  | [], k, acc, a, b, c, e, f, g, h, _, _ => ⟨[], e, f, g, by simp [enumF, forL, badAt]⟩
  | l :: ls, k, acc, a, b, c, e, f, g, h, hl, hn => by
    have hlo := hl.ok l (by simp)
    have hll := hl.ln l (by simp)
    have hW := hl.wds l (by simp)
    have hr := lwire_ok (μ := μ) (z := l) (by omega) hW (cut_sp l).ne
    have hk := lwire_B (μ := μ) (wireW_ok hW 10) (by omega) (nc := nc) (ns := ns)
    rw [List.map_cons, enumF_cons, List.map_cons]
    by_cases q : wireB nc ns (wireOf l) = true
    · obtain ⟨e', f', g', h', ih⟩ := lloop hc hs ls (k + 1) (acc ++ [wireOf l]) a b c (.d (.int k)) (.d (.str l)) (.d (wireOf l)) h hl.tl (by simp at hn ⊢; omega)
      obtain ⟨w, e1, hw, e2⟩ := line_back q
      have hwd := lwords_ok (μ := μ) hw hc hs
      rw [← e1, e2] at hwd
      have hq := eq_same (μ := μ) (ok_str l 64 hlo)
      have hz : acc.length + 1 ≤ 16777216 := by simp at hn; omega
      refine ⟨e', f', g', h', ?_⟩
      rw [show badAt nc ns k (wireOf l :: ls.map wireOf) = badAt nc ns (k + 1) (ls.map wireOf) from if_pos q]
      rw [show wireB nc ns (wireW (Txt.split l " ")) = true from q] at hk
      simp only [List.append_assoc, List.cons_append, List.nil_append] at ih
      rw [← ih]
      simp [forL, B_loop, B__law_due__2, hr, hk, hwd, hq, szL, hz, wireOf]
    · refine ⟨[a, b, c, .d (.tup [.int nc, .int ns]), .d (.tup acc), .d (.int k), .d (.str l), .d (wireOf l), h], .un, .un, .un, ?_⟩
      rw [show badAt nc ns k (wireOf l :: ls.map wireOf) = some ((k : Int) + 2) from if_neg q]
      rw [Bool.not_eq_true] at q
      rw [show wireB nc ns (wireW (Txt.split l " ")) = false from q] at hk
      simp [forL, B_loop, B__law_due__2, hr, hk, wireOf]
end
end K7
set_option Elab.async false
set_option linter.all false
set_option maxRecDepth 100000
set_option maxHeartbeats 4000000
/-! K7e: any value read, by the program and by the law. -/
namespace K7
open PySem L2 Mi Pg Ev Dr Mm Kv
def outP : D → Except (Str × Option D) D
  | .int i => .error ("InvalidText", some (.int i))
  | d => .ok d
section
variable {μ : List Mo}
theorem pread_ok {z : Str} (hz : PyData.strOk z = true) (hl : z.length ≤ 200000) : Fread_board [.str z] μ = some (outP (readD z), μ) := by
  have hsp := split_big (μ := μ) (z := z) (y := "\n") (by omega) (by decide +kernel)
  have hL := lns_of hz hl
  have hne := (cut_nl z).ne
  unfold readD
  generalize Txt.split z "\n" = lines at hsp hL hne ⊢
  cases lines with
  | nil => exact absurd rfl hne
  | cons l ls =>
    have hh := phead_ok (μ := μ) (hL.ok l (by simp)) (by have := hL.ln l (by simp); omega)
    simp at hsp
    dsimp only
    cases e : headW (Txt.split l " ") with
    | none =>
      rw [e] at hh
      simp [Fread_board, B_read_board, go, hsp, hh, outP, szL]
    | some p =>
      obtain ⟨nc, ns⟩ := p
      rw [e] at hh
      dsimp only at hh ⊢
      have hn := hL.n
      have hc := comp_map (μ := μ) (f := fun l : Str => .str l) (g := wireOf) (tg := .name 6) (keep := ev (.con (.bl true))) (elt := ev (.call Fwire_of (.cons (.var 6) .nil))) (δ := [.d (.str z), .d (.lst (.str l :: ls.map .str)), .d (.tup [.int nc, .int ns, .tup []]), .un, .un, .un, .un]) (fun δ μ => by simp) ls [] (by rw [szL]; simp at hn ⊢; omega) (fun x hx => ⟨_, rfl, by
        have := pwire_ok (μ := μ) (z := x) (by have := hL.tl.ln x hx; omega) (hL.tl.wds x hx) (cut_sp x).ne
        simp [this, wireOf]⟩)
      rw [List.nil_append] at hc
      obtain ⟨x, y, e2⟩ := ploop (μ := μ) (nc := nc) (ns := ns) (r := .tup []) (ls.map wireOf) 0 (.d (.str z)) (.d (.lst (.str l :: ls.map .str))) (.d (.tup (ls.map wireOf))) .un .un .un (wires_ok hL.tl 46)
      have e3 : enumK (.tup (ls.map wireOf)) = some (enumF 0 (ls.map wireOf)) := by rw [← enum_F]; rfl
      cases e4 : badAt nc ns 0 (ls.map wireOf) with
      | some i =>
        rw [e4] at e2
        dsimp only at e2
        simp [Fread_board, B_read_board, go, hsp, hh, cut1, kcomp, wipeS, hc, enum_F, x_kfor, e2, outP, szL]
      | none =>
        rw [e4] at e2
        dsimp only at e2
        by_cases q : ls.length ≤ 8
        · have q2 : decide ((8 : Int) < ls.length) = false := by simp; omega
          simp [Fread_board, B_read_board, go, hsp, hh, cut1, cut02, kcomp, wipeS, hc, enum_F, x_kfor, e2, outP, szL, q, q2]
        · have q2 : decide ((8 : Int) < ls.length) = true := by simp; omega
          simp [Fread_board, B_read_board, go, hsp, hh, cut1, cut02, kcomp, wipeS, hc, enum_F, x_kfor, e2, outP, szL, q, q2]
theorem due_ok {z : Str} (hz : PyData.strOk z = true) (hl : z.length ≤ 200000) : F_law_due__2 [.str z] μ = some (.ok (readD z), μ) := by
  have hsp := split_big (μ := μ) (z := z) (y := "\n") (by omega) (by decide +kernel)
  have hL := lns_of hz hl
  have hne := (cut_nl z).ne
  unfold readD
  generalize Txt.split z "\n" = lines at hsp hL hne ⊢
  cases lines with
  | nil => exact absurd rfl hne
  | cons l ls =>
    have hlo := hL.ok l (by simp)
    have hll := hL.ln l (by simp)
    have hsp2 := split_big (μ := μ) (z := l) (y := " ") (by omega) (by decide +kernel)
    have hW := hL.wds l (by simp)
    have hne2 := (cut_sp l).ne
    simp at hsp
    dsimp only
    generalize Txt.split l " " = ws at hsp2 hW hne2 ⊢
    cases ws with
    | nil => exact absurd rfl hne2
    | cons b ws =>
      have hb := eq_str (μ := μ) (hW.ok b (by simp)) (show PyData.strOk ("board" : Str) = true by decide +kernel)
      have hc := comp_part (μ := μ) (F := F_law_part) (fun z hz _ => lpart_ok hz) hW.tl (δ := [.d (.str z), .d (.lst (.str l :: ls.map .str)), .d (.lst (.str b :: ws.map .str)), .un, .un, .un, .un, .un, .un]) (i := 8) (by simp)
      simp at hsp2 hc
      have none_case : headW (b :: ws) = none → (b ≠ "board" ∨ ws.length ≠ 2 ∨ (∃ x y, ws = [x, y] ∧ boardB (.tup [partD x, partD y, .tup []]) = false)) := by
        intro h
        by_cases q : b = "board"
        · by_cases p : ws.length = 2
          · match ws, p with
            | [x, y], _ =>
              right; right
              refine ⟨x, y, rfl, ?_⟩
              cases e : boardB (.tup [partD x, partD y, .tup []]) with
              | false => rfl
              | true =>
                rw [show headW [b, x, y] = some (natOf (partD x), natOf (partD y)) from if_pos ⟨q, e⟩] at h
                cases h
          · exact .inr (.inl p)
        · exact .inl q
      cases e : headW (b :: ws) with
      | none =>
        rcases none_case e with q | q | ⟨x, y, rfl, q⟩
        · have hbe : eqD μ (.str b) (.str "board") = some false := by rw [hb]; simp [q]
          simp [F_law_due__2, B__law_due__2, go, hsp, hsp2, cut1, kcomp, wipeS, hc, hbe, szL]
        · have q2 : ¬ ((ws.length : Int) = 2) := by omega
          cases p : (b == ("board" : Str))
          · have hbe : eqD μ (.str b) (.str "board") = some false := by rw [hb, p]
            simp [F_law_due__2, B__law_due__2, go, hsp, hsp2, cut1, kcomp, wipeS, hc, hbe, szL]
          · have hbe : eqD μ (.str b) (.str "board") = some true := by rw [hb, p]
            simp [F_law_due__2, B__law_due__2, go, hsp, hsp2, cut1, kcomp, wipeS, hc, hbe, szL, q2]
        · have hok : okN 5 (.tup [partD x, partD y, .tup []]) = true := by
            have h1 := part_ok (hW.ok x (by simp)) 4
            have h2 := part_ok (hW.ok y (by simp)) 4
            have h3 : okN 4 (.tup []) = true := rfl
            show okNs 4 _ = true
            simp only [okNs, h1, h2, h3, Bool.and_true]
          have hB := lboard_B (μ := μ) hok (by omega) (fun a b ws e => by injection e with e; injection e with _ e; injection e with _ e; injection e with e _; injection e with e; subst e; simp)
          rw [q] at hB
          simp at hc
          cases p : (b == ("board" : Str))
          · have hbe : eqD μ (.str b) (.str "board") = some false := by rw [hb, p]
            simp [F_law_due__2, B__law_due__2, go, hsp, hsp2, cut1, kcomp, wipeS, hc, hbe, szL]
          · have hbe : eqD μ (.str b) (.str "board") = some true := by rw [hb, p]
            simp [F_law_due__2, B__law_due__2, go, hsp, hsp2, cut1, kcomp, wipeS, hc, hbe, szL, hB]
      | some p =>
        obtain ⟨nc, ns⟩ := p
        have hh : ∃ x y, ws = [x, y] ∧ b = "board" ∧ boardB (.tup [partD x, partD y, .tup []]) = true ∧ nc = natOf (partD x) ∧ ns = natOf (partD y) := by
          match ws, e with
          | [], e => cases e
          | [x], e => cases e
          | [x, y], e =>
            by_cases h : b = "board" ∧ boardB (.tup [partD x, partD y, .tup []]) = true
            · rw [show headW [b, x, y] = some (natOf (partD x), natOf (partD y)) from if_pos h] at e
              injection e with e
              injection e with e1 e2
              exact ⟨x, y, rfl, h.1, h.2, e1.symm, e2.symm⟩
            · rw [show headW [b, x, y] = none from if_neg h] at e
              cases e
          | x :: y :: t :: u, e => cases e
        obtain ⟨x, y, rfl, rfl, hB0, rfl, rfl⟩ := hh
        obtain ⟨e1, e2, hc3, hs2⟩ := boardB_nats hB0
        generalize natOf (partD x) = nc at e1 hc3 ⊢
        generalize natOf (partD y) = ns at e2 hs2 ⊢
        rw [e1, e2] at hB0
        have hB := lboard_B (μ := μ) (n := 5) (d := .tup [.int nc, .int ns, .tup []]) rfl (by omega) (fun a b ws e => by injection e with e; injection e with _ e; injection e with _ e; injection e with e _; injection e with e; subst e; simp)
        rw [hB0] at hB
        simp [e1, e2] at hc
        obtain ⟨e', f', g', h', e5⟩ := lloop (μ := μ) (nc := nc) (ns := ns) hc3 hs2 ls 0 [] (.d (.str z)) (.d (.lst (.str l :: ls.map .str))) (.d (.lst [.str "board", .str x, .str y])) .un .un .un .un hL.tl (by have := hL.n; simp at this ⊢; omega)
        dsimp only
        have hbe : eqD μ (.str "board") (.str "board") = some true := eq_bb
        cases e4 : badAt nc ns 0 (ls.map wireOf) with
        | some i =>
          rw [e4] at e5
          simp [B_loop, B__law_due__2] at e5
          simp [F_law_due__2, B__law_due__2, go, hsp, hsp2, cut1, kcomp, wipeS, hc, hbe, hB, enum_F, x_kfor, e5, szL]
        | none =>
          rw [e4] at e5
          simp [B_loop, B__law_due__2] at e5
          by_cases q : ls.length ≤ 8
          · have q2 : decide ((ls.length : Int) < 9) = true := by simp; omega
            simp [F_law_due__2, B__law_due__2, go, hsp, hsp2, cut1, kcomp, wipeS, hc, hbe, hB, enum_F, x_kfor, e5, szL, q, q2]
          · have q2 : decide ((ls.length : Int) < 9) = false := by simp; omega
            simp [F_law_due__2, B__law_due__2, go, hsp, hsp2, cut1, kcomp, wipeS, hc, hbe, hB, enum_F, x_kfor, e5, szL, q, q2]
/-- values that are no texts -/
theorem pread_no {d : D} (h : Bi.do .isi μ [d, .ty "str"] = some (.bl false)) : Fread_board [d] μ = some (.error ("InvalidText", some (.int 0)), μ) := by
  simp [Fread_board, B_read_board, go, h]
theorem due_no {d : D} (h : Bi.do .isi μ [d, .ty "str"] = some (.bl false)) : F_law_due__2 [d] μ = some (.ok (.int 0), μ) := by
  simp [F_law_due__2, B__law_due__2, go, h]
end
end K7
set_option Elab.async false
set_option linter.all false
set_option maxRecDepth 100000
set_option maxHeartbeats 4000000
/-! Kve: any values: rows, cards, decks, patterns by the law; the pattern of a deck. -/
namespace Kv
open PySem L2 Mi Pg Ev Dr Mm
end Kv
set_option Elab.async false
set_option linter.all false
set_option maxRecDepth 100000
set_option maxHeartbeats 4000000
/-! Kvf: any values drawn; values bent. -/
namespace Kv
open PySem L2 Mi Pg Ev Dr Mm
/-- plain values: at most n deep, sizes by s -/
def vN : Nat → Nat → D → Bool
  | _, _, .non => true
  | _, _, .bl _ => true
  | _, s, .int i => decide (i.natAbs < 10 ^ s)
  | _, s, .str z => z.cps.toList.all (fun c => decide (c < 128)) && decide (z.length ≤ s)
  | n + 1, s, .tup xs => decide (xs.length ≤ s) && xs.all (vN n s)
  | n + 1, s, .lst xs => decide (xs.length ≤ s) && xs.all (vN n s)
  | _, _, _ => false
theorem asc_ok {z : Str} (h : z.cps.toList.all (fun c => decide (c < 128)) = true) : PyData.strOk z = true := by
  rw [sok]
  intro c hc
  have := of_decide_eq_true (List.all_eq_true.mp h c hc)
  omega
theorem vN_mono : ∀ (n m s t : Nat) (d : D), n ≤ m → s ≤ t → vN n s d = true → vN m t d = true
  | _, m, _, _, .non, _, _, _ => by cases m <;> rfl
  | _, m, _, _, .bl _, _, _, _ => by cases m <;> rfl
  | n, m, s, t, .int i, _, hs, h => by
    have h : i.natAbs < 10 ^ s := by cases n <;> simpa [vN] using h
    have : 10 ^ s ≤ 10 ^ t := Nat.pow_le_pow_right (by decide) hs
    have h2 : i.natAbs < 10 ^ t := by omega
    cases m <;> simpa [vN] using h2
  | n, m, s, t, .str z, _, hs, h => by
    have h : z.cps.toList.all (fun c => decide (c < 128)) = true ∧ z.length ≤ s := by
      have : (z.cps.toList.all (fun c => decide (c < 128)) && decide (z.length ≤ s)) = true := by cases n <;> simpa [vN] using h
      rw [Bool.and_eq_true] at this
      exact ⟨this.1, of_decide_eq_true this.2⟩
    have : (z.cps.toList.all (fun c => decide (c < 128)) && decide (z.length ≤ t)) = true := by
      rw [h.1, Bool.true_and]; exact decide_eq_true (by omega)
    cases m <;> simpa [vN] using this
  | n + 1, m + 1, s, t, .tup xs, hm, hs, h => by
    simp only [vN, Bool.and_eq_true, decide_eq_true_eq] at h ⊢
    exact ⟨by omega, List.all_eq_true.mpr fun x hx => vN_mono n m s t x (by omega) hs (List.all_eq_true.mp h.2 x hx)⟩
  | n + 1, m + 1, s, t, .lst xs, hm, hs, h => by
    simp only [vN, Bool.and_eq_true, decide_eq_true_eq] at h ⊢
    exact ⟨by omega, List.all_eq_true.mpr fun x hx => vN_mono n m s t x (by omega) hs (List.all_eq_true.mp h.2 x hx)⟩
  | n + 1, 0, _, _, .tup _, hm, _, _ => by omega
  | n + 1, 0, _, _, .lst _, hm, _, _ => by omega
  | 0, _, _, _, .tup _, _, _, h => by simp [vN] at h
  | 0, _, _, _, .lst _, _, _, h => by simp [vN] at h
  | n, _, _, _, .ty _, _, _, h => by cases n <;> simp [vN] at h
  | n, _, _, _, .glo _, _, _, h => by cases n <;> simp [vN] at h
  | n, _, _, _, .obj _, _, _, h => by cases n <;> simp [vN] at h
  | n, _, _, _, .scr _, _, _, h => by cases n <;> simp [vN] at h
theorem vN_mk {m s : Nat} {xs : List D} (hl : xs.length ≤ s) (h : ∀ x ∈ xs, vN m s x = true) : vN (m + 1) s (.tup xs) = true := by
  simp only [vN, Bool.and_eq_true, decide_eq_true_eq]
  exact ⟨hl, List.all_eq_true.mpr h⟩
theorem vN_mkl {m s : Nat} {xs : List D} (hl : xs.length ≤ s) (h : ∀ x ∈ xs, vN m s x = true) : vN (m + 1) s (.lst xs) = true := by
  simp only [vN, Bool.and_eq_true, decide_eq_true_eq]
  exact ⟨hl, List.all_eq_true.mpr h⟩
/-! ### odd values -/
def oddL : List D := [.non, .bl true, .bl false, .int 0, .int 1, .int 2, .int 3, .int (-1), .int 10000000000000000000000000000000, .str "", .str "x", .str "y", .str "card", .str "minor", .str "print", .str "set", .tup [], .lst [],
  .tup [.int 0, .bl true], .tup [.str "print", .tup [.str "x"]], .tup [.str "add", .str "x", .int 0], .tup [.str "none", .bl true], .tup [.int 1, .int 1, .bl true, .int 2, .int 3], .tup [.int 0, .int 0, .tup []]]
theorem oddL_ok : ∀ d ∈ oddL, vN 2 45 d = true := by decide +kernel
section
variable {k : Nat} {μ : List Mo}
theorem pow31 : Op.do .pow μ (.int 10) (.int 31) = some (.int 10000000000000000000000000000000) := by kernel_rfl
theorem odd_base {F : Sem} (v : Vat μ k) {dep : Nat} (rest : ∀ μ1, Vat μ1 k → dep ≠ 0 → Gives k μ1 (fun r => vN (dep + 2) 45 r = true) (fin (exs (dropS 3 (B__law_odd F)) [.d (.obj k), .d (.int dep), .d (.lst oddL), .un, .un] μ1))) : Gives k μ (fun r => vN (dep + 2) 45 r = true) (run 2 5 (B__law_odd F) [.obj k, .int dep] μ) := by
  have done : ∀ μ1, Vat μ1 k → ∃ d μ2, F_law_some [.obj k, .lst oddL] μ1 = some (.ok d, μ2) ∧ Dn k μ1 μ2 ∧ vN (dep + 2) 45 d = true := by
    intro μ1 v1
    obtain ⟨d, hd, μ2, e, dn⟩ := some_spec (xs := oddL) v1 (by simp [oddL]) (by simp [oddL])
    exact ⟨d, μ2, e, dn, vN_mono 2 (dep + 2) 45 45 d (by omega) (Nat.le_refl _) (oddL_ok d hd)⟩
  by_cases h0 : dep = 0
  · subst h0
    obtain ⟨d, μ2, e, dn, q⟩ := done μ v
    refine ⟨d, μ2, ?_, dn, q⟩
    simp only [oddL] at e
    simp [B__law_odd, go, szL, pow31, e]
  · have hd0 : ¬ ((dep : Int) = 0) := by omega
    obtain ⟨q, μ1, e1, d1, q0, q1⟩ := under_spec (m := 9) v (by decide) (by decide)
    by_cases h6 : q < 6
    · obtain ⟨d, μ2, e, dn, q⟩ := done μ1 d1.vat
      refine ⟨d, μ2, ?_, d1.trans dn, q⟩
      simp only [oddL] at e
      simp [B__law_odd, go, szL, pow31, hd0, h0, e1, h6, e]
    · refine Gives.of ?_ d1
      have := rest μ1 d1.vat h0
      have e : run 2 5 (B__law_odd F) [.obj k, .int dep] μ = fin (exs (dropS 3 (B__law_odd F)) [.d (.obj k), .d (.int dep), .d (.lst oddL), .un, .un] μ1) := by
        simp [B__law_odd, go, szL, pow31, hd0, h0, e1, h6, oddL]
        simp [dropS]
      rw [e]
      exact this
theorem odd_spec : ∀ (m dep : Nat) (μ : List Mo), dep ≤ m → Vat μ k → Gives k μ (fun r => vN (dep + 2) 45 r = true) (R__law_odd m [.obj k, .int dep] μ)
  | 0, dep, μ, h, v => by
    have : dep = 0 := by omega
    subst this
    obtain ⟨d, hd, μ2, e, dn⟩ := some_spec (xs := oddL) v (by simp [oddL]) (by simp [oddL])
    refine ⟨d, μ2, ?_, dn, vN_mono 2 2 45 45 d (by omega) (Nat.le_refl _) (oddL_ok d hd)⟩
    simp only [oddL] at e
    simp [R__law_odd, B0__law_odd, go, szL, pow31, e]
  | m + 1, dep, μ, h, v => by
    show Gives k μ _ (run 2 5 (B__law_odd (R__law_odd m)) [.obj k, .int dep] μ)
    refine odd_base v fun μ1 v1 h0 => ?_
    obtain ⟨dep, rfl⟩ : ∃ j, dep = j + 1 := ⟨dep - 1, by omega⟩
    obtain ⟨q, μ2, e2, d2, q0, q1⟩ := under_spec (m := 4) v1 (by decide) (by decide)
    have hrk : rgOk 0 q = true := by unfold rgOk; simp; omega
    have lrk : (rgD 0 q).length = q.toNat := by unfold rgD; simp
    obtain ⟨ds, μ3, e3, d3, l3, q3⟩ := comp_draw (n := k) (tg := .name 4) (keep := ev (.con (.bl true))) (elt := ev (.call (R__law_odd m) (.cons (.var 0) (.cons (.op .sub (.var 1) (.con (.int (1)))) .nil)))) (δ := [.d (.obj k), .d (.int ((dep + 1 : Nat) : Int)), .d (.lst oddL), .un, .un]) (Q := fun d => vN (dep + 2) 45 d = true) (fun δ μ => by simp) (rgD 0 q) [] μ2 d2.vat (by rw [lrk, szL]; show 0 + _ ≤ _; omega) (fun x hx => ⟨_, rfl, fun μ v => by
      obtain ⟨d, μ', e, dn, q⟩ := odd_spec m dep μ (by omega) v
      have hsub : ((dep + 1 : Nat) : Int) - 1 = dep := by omega
      exact ⟨d, μ', by simp [hsub, e], dn, q⟩⟩)
    obtain ⟨p, μ4, e4, d4, p0, p1⟩ := under_spec (m := 3) d3.vat (by decide) (by decide)
    have hlen : ds.length ≤ 45 := by rw [l3, lrk]; omega
    rw [List.nil_append] at e3
    by_cases hp : p = 0
    · subst hp
      refine ⟨.lst ds, μ4, ?_, (d2.trans d3).trans d4, vN_mkl hlen q3⟩
      simp at e3
      simp [dropS, B__law_odd, e2, hrk, kcomp, wipeS, e3, e4]
    · refine ⟨.tup ds, μ4, ?_, (d2.trans d3).trans d4, vN_mk hlen q3⟩
      simp at e3
      simp [dropS, B__law_odd, e2, hrk, kcomp, wipeS, e3, e4, hp]
theorem oddF_spec {dep : Nat} (v : Vat μ k) (h : dep ≤ 4) : Gives k μ (fun r => vN (dep + 2) 45 r = true) (F_law_odd [.obj k, .int dep] μ) := odd_spec 4 dep μ h v
/-! ### bent values -/
end
end Kv
set_option Elab.async false
set_option linter.all false
set_option maxRecDepth 100000
set_option maxHeartbeats 4000000
/-! Kvg: values bent at any depth. -/
namespace Kv
open PySem L2 Mi Pg Ev Dr Mm
end Kv
set_option Elab.async false
set_option linter.all false
set_option maxRecDepth 100000
set_option maxHeartbeats 4000000
/-! K7f: texts spoilt. -/
namespace K7
open PySem L2 Mi Pg Ev Dr Mm Kv
structure Tx (L : Nat) (z : Str) : Prop where
  ln : z.length ≤ L
  ch : ∀ c ∈ TL.tl z, c < 128
theorem Tx.sok {L : Nat} {z : Str} (h : Tx L z) : PyData.strOk z = true := (Dr.sok z).mpr fun c hc => by have := h.ch c hc; omega
theorem Tx.mono {L M : Nat} {z : Str} (h : Tx L z) (hm : L ≤ M) : Tx M z := ⟨by have := h.ln; omega, h.ch⟩
theorem Tx.app {L M : Nat} {x y : Str} (h : Tx L x) (g : Tx M y) : Tx (L + M) (x ++ y) := by
  refine ⟨?_, fun c hc => ?_⟩
  · have h1 := h.ln
    have h2 := g.ln
    rw [TL.len_tl] at h1 h2 ⊢
    rw [TL.tl_append, List.length_append]
    omega
  · rw [TL.tl_append] at hc
    rcases List.mem_append.mp hc with q | q
    · exact h.ch c q
    · exact g.ch c q
theorem Tx.cut {L : Nat} {z : Str} (h : Tx L z) (lo hi : Option Int) : Tx L (L2.cutS z lo hi) := by
  refine ⟨?_, fun c hc => h.ch c ?_⟩
  · exact Nat.le_trans (L2.cutS_length z lo hi) h.ln
  · exact List.mem_of_mem_drop (List.mem_of_mem_take hc)
theorem Tx.upper {L : Nat} {z : Str} (h : Tx L z) : Tx L (Txt.upper z) := by
  rw [PyProof.Rows.upper_ascii (x := z) h.ch]
  refine ⟨?_, fun c hc => ?_⟩
  · show (z.cps.map _).size ≤ L
    rw [Array.size_map]
    exact h.ln
  · have e : TL.tl (⟨z.cps.map PyProof.Rows.up1⟩ : Str) = (TL.tl z).map PyProof.Rows.up1 := by
      show (z.cps.map _).toList = _
      rw [Array.toList_map]
    rw [e] at hc
    obtain ⟨d, hd, rfl⟩ := List.mem_map.mp hc
    have := h.ch d hd
    unfold PyProof.Rows.up1
    split <;> omega
def sz (ws : List Str) : Nat := (ws.map (·.length)).sum + ws.length
theorem sz_cons (w : Str) (ws : List Str) : sz (w :: ws) = w.length + 1 + sz ws := by simp [sz]; omega
theorem sz_app (a b : List Str) : sz (a ++ b) = sz a + sz b := by simp [sz]; omega
theorem sz_take : ∀ (k : Nat) (ws : List Str), sz (ws.take k) ≤ sz ws
  | 0, ws => by simp [sz]
  | k + 1, [] => by simp
  | k + 1, w :: ws => by
    have := sz_take k ws
    rw [List.take_succ_cons, sz_cons, sz_cons]
    omega
theorem sz_drop : ∀ (k : Nat) (ws : List Str), sz (ws.drop k) ≤ sz ws
  | 0, ws => by simp
  | k + 1, [] => by simp
  | k + 1, w :: ws => by
    have := sz_drop k ws
    rw [List.drop_succ_cons, sz_cons]
    omega
structure TxL (S : Nat) (ws : List Str) : Prop where
  ln : sz ws ≤ S
  ch : ∀ w ∈ ws, ∀ c ∈ TL.tl w, c < 128
theorem TxL.cut {S : Nat} {ws : List Str} (h : TxL S ws) (lo hi : Option Int) : TxL S (cutL ws lo hi) :=
  ⟨Nat.le_trans (sz_take _ _) (Nat.le_trans (sz_drop _ _) h.ln), fun w hw => h.ch w (List.mem_of_mem_drop (List.mem_of_mem_take hw))⟩
theorem TxL.app {S T : Nat} {a b : List Str} (h : TxL S a) (g : TxL T b) : TxL (S + T) (a ++ b) :=
  ⟨by rw [sz_app]; have := h.ln; have := g.ln; omega, fun w hw => by
    rcases List.mem_append.mp hw with q | q
    · exact h.ch w q
    · exact g.ch w q⟩
theorem TxL.one {S : Nat} {z : Str} (h : Tx S z) : TxL (S + 1) [z] :=
  ⟨by have := h.ln; simp [sz]; omega, fun w hw => by rw [List.mem_singleton.mp hw]; exact h.ch⟩
theorem TxL.cnt {S : Nat} {ws : List Str} (h : TxL S ws) : ws.length ≤ S := by have := h.ln; unfold sz at this; omega
theorem Tx.split {L : Nat} {z : Str} (h : Tx L z) : TxL (L + 1) (Txt.split z "\n") := by
  have c := cut_nl z
  refine ⟨?_, fun w hw d hd => h.ch d (c.mem w hw d hd)⟩
  have := c.sum
  have := h.ln
  unfold sz
  omega
theorem TxL.join {S : Nat} {ws : List Str} (h : TxL S ws) : Tx S (Txt.join "\n" ws) := by
  rw [TL.join_eq]
  refine ⟨?_, fun c hc => ?_⟩
  · have h1 := sjoin_len "\n" ws
    have h2 := h.ln
    have e : Str.length "\n" = 1 := by decide +kernel
    rw [e] at h1
    unfold sz at h2
    omega
  · apply Decidable.byContradiction
    intro hlt
    exact sjoin_mem "\n" c (by
      have e : TL.tl ("\n" : Str) = [10] := by decide +kernel
      rw [e]
      simp
      omega) ws (fun w hw q => hlt (h.ch w hw c q)) hc
theorem cutL_map {α β : Type} (f : α → β) (xs : List α) (lo hi : Option Int) : cutL (xs.map f) lo hi = (cutL xs lo hi).map f := by
  unfold cutL
  rw [List.length_map, List.map_take, List.map_drop]
section
variable {μ : List Mo} {n : Nat}
theorem TxL.joinD {S : Nat} {ws : List Str} (h : TxL S ws) (hs : S ≤ 16000000) {μ : List Mo} : Bi.do .join μ [.str "\n", .lst (ws.map .str)] = some (.str (Txt.join "\n" ws)) := join_l (x := "\n") (by
    have h2 := h.ln
    have e : Str.length "\n" = 1 := by decide +kernel
    rw [e]
    unfold sz at h2
    omega)
theorem len_str {z : Str} {L : Nat} (h : Tx L z) (hL : L ≤ 1000000) {μ : List Mo} : Bi.do .len μ [.str z] = some (.int z.length) := by
  have hl2 : z.length ≤ 16777216 := by have := h.ln; omega
  show (lenD μ (.str z)).map (fun n => D.int (n : Int)) = _
  simp only [lenD]
  simp [szL, hl2]
theorem sl_str {z : Str} {L : Nat} (h : Tx L z) (hL : L ≤ 1000000) {μ : List Mo} {lo hi : Option Int} : slD μ (.str z) lo hi = some (.str (L2.cutS z lo hi)) := by
  show (if z.length ≤ sizeLine then some (D.str (L2.cutS z lo hi)) else none) = _
  rw [if_pos (by rw [szL]; have := h.ln; omega)]
theorem add_str {x y : Str} {L M : Nat} (h : Tx L x) (g : Tx M y) (hl : L + M ≤ 16000000) {μ : List Mo} : addD μ (.str x) (.str y) = some (.str (x ++ y)) := a_str (by rw [szL]; have := h.ln; have := g.ln; omega)
def signs : List D := [.str "", .str " ", .str "0", .str "1", .str "x", .str "\n", .str "\ncard", .str " if 0", .str "2", .str "y", .str "on", .str "-"]
def lns : List D := [.str "card print x", .str "minor print x", .str "major print 0", .str "card if 0 on 0", .str "board 1 1", .str "hole add 0 0", .str "card on"]
def txB (L : Nat) : D → Bool
  | .str z => decide (z.length ≤ L) && (TL.tl z).all (fun c => decide (c < 128))
  | _ => false
theorem txB_inv {L : Nat} {d : D} (h : txB L d = true) : ∃ z, d = .str z ∧ Tx L z := by
  cases d <;> simp only [txB, Bool.and_eq_true, decide_eq_true_eq, List.all_eq_true] at h
  case str z => exact ⟨z, rfl, h.1, h.2⟩
  all_goals cases h
theorem signs_ok : ∀ d ∈ signs, txB 5 d = true := by decide +kernel
theorem lns_ok : ∀ d ∈ lns, txB 14 d = true := by decide +kernel
def TxQ (L : Nat) (d : D) : Prop := ∃ z, d = .str z ∧ Tx L z
theorem spoilt_spec (v : Vat μ n) {z : Str} {L : Nat} (h : Tx L z) (hL : L ≤ 800000) : Gives n μ (TxQ (2 * L + 60)) (F_law_spoilt [.obj n, .str z] μ) := by
  obtain ⟨spot, μ1, e1, d1, s0, s1⟩ := under_spec (m := (z.length : Int) + 1) v (by omega) (by have := h.ln; omega)
  obtain ⟨way, μ2, e2, d2, w0, w1⟩ := under_spec (m := 6) d1.vat (by omega) (by omega)
  have hlen := @len_str z L h (by omega)
  have hsl := @sl_str z L h (by omega)
  by_cases hw : way < 2
  · obtain ⟨x, hx, μ3, e3, d3⟩ := some_spec (xs := signs) d2.vat (by simp [signs]) (by simp [signs])
    obtain ⟨t, rfl, ht⟩ := txB_inv (signs_ok x hx)
    have a1 := @add_str _ _ _ _ (h.cut none (some spot)) ht (by omega)
    have a2 := @add_str _ _ _ _ ((h.cut none (some spot)).app ht) (h.cut (some (spot + way)) none) (by omega)
    refine ⟨_, μ3, ?_, (d1.trans d2).trans d3, _, rfl, (((h.cut none (some spot)).app ht).app (h.cut (some (spot + way)) none)).mono (by omega)⟩
    simp [signs] at e3
    simp [F_law_spoilt, B__law_spoilt, go, hlen, e1, e2, hw, hsl, e3, a1, a2, szL]
  · have hsp := fun μ => split_big (μ := μ) (z := z) (y := "\n") (by have := h.ln; omega) (by decide +kernel)
    have hT := h.split
    have hne := (cut_nl z).ne
    generalize Txt.split z "\n" = ls at hsp hT hne
    have hc := hT.cnt
    obtain ⟨here, μ3, e3, d3, p0, p1⟩ := under_spec (m := (ls.length : Int)) d2.vat (by have := List.length_pos_iff.mpr hne; omega) (by omega)
    have c1 := hT.cut none (some here)
    have c2 := hT.cut (some (here + 1)) none
    have c3 := hT.cut none (some (here + 1))
    have c4 := hT.cut (some here) none
    have z1 := c1.cnt
    have z2 := c2.cnt
    have z3 := c3.cnt
    have z4 := c4.cnt
    have hlist : ∀ μ : List Mo, ∀ {a b : List Str}, a.length + b.length ≤ 16777216 → addD μ (.lst (a.map .str)) (.lst (b.map .str)) = some (.lst ((a ++ b).map .str)) := by
      intro μ a b hab
      rw [List.map_append]
      simp [szL, hab]
    by_cases q2 : way = 2
    · subst q2
      have j := @TxL.joinD _ _ (c1.app c2) (by omega)
      refine ⟨_, μ3, ?_, (d1.trans d2).trans d3, _, rfl, (c1.app c2).join.mono (by omega)⟩
      have ha := fun μ => hlist μ (a := cutL ls none (some here)) (b := cutL ls (some (here + 1)) none) (by omega)
      simp [F_law_spoilt, B__law_spoilt, go, hlen, e1, e2, hsp, e3, cutL_map, ha, j, szL, -a_lst, -List.map_append]
    · by_cases q3 : way = 3
      · subst q3
        have j := @TxL.joinD _ _ (c3.app c4) (by omega)
        refine ⟨_, μ3, ?_, (d1.trans d2).trans d3, _, rfl, (c3.app c4).join.mono (by omega)⟩
        have ha := fun μ => hlist μ (a := cutL ls none (some (here + 1))) (b := cutL ls (some here) none) (by omega)
        simp [F_law_spoilt, B__law_spoilt, go, hlen, e1, e2, hsp, e3, cutL_map, ha, j, szL, -a_lst, -List.map_append]
      · by_cases q4 : way = 4
        · subst q4
          have j := @TxL.joinD _ _ (c4.app c1) (by omega)
          refine ⟨_, μ3, ?_, (d1.trans d2).trans d3, _, rfl, (c4.app c1).join.mono (by omega)⟩
          have ha := fun μ => hlist μ (a := cutL ls (some here) none) (b := cutL ls none (some here)) (by omega)
          simp [F_law_spoilt, B__law_spoilt, go, hlen, e1, e2, hsp, e3, cutL_map, ha, j, szL, -a_lst, -List.map_append]
        · obtain ⟨x, hx, μ4, e4, d4⟩ := some_spec (xs := lns) d3.vat (by simp [lns]) (by simp [lns])
          obtain ⟨t, rfl, ht⟩ := txB_inv (lns_ok x hx)
          have c5 := TxL.one ht
          have j := fun μ => @TxL.joinD _ _ ((c1.app c5).app c2) (by omega) μ
          simp only [List.append_assoc, List.cons_append, List.nil_append] at j
          refine ⟨_, μ4, ?_, ((d1.trans d2).trans d3).trans d4, _, rfl, ((c1.app c5).app c2).join.mono (by omega)⟩
          have ha := fun μ => hlist μ (a := cutL ls none (some here)) (b := [t]) (by simp; omega)
          have hb := fun μ => hlist μ (a := cutL ls none (some here) ++ [t]) (b := cutL ls (some (here + 1)) none) (by simp; omega)
          simp only [List.map_cons, List.map_nil] at ha
          simp [lns] at e4
          simp [F_law_spoilt, B__law_spoilt, go, hlen, e1, e2, hw, q2, q3, q4, hsp, e3, e4, cutL_map, ha, hb, j, szL, -a_lst, -List.map_append]
end
end K7
set_option Elab.async false
set_option linter.all false
set_option maxRecDepth 100000
set_option maxHeartbeats 4000000
/-! Evr: the newer forms, one by one. -/
namespace Ev
open PySem L2 Mi
def kd3 (a : Nat) (F : Sem) (xs : List D) (μ : List Mo) : RM D := if xs.length = a then F xs μ else none
def kd2 (es : Es) (δ : List Sl) (μ : List Mo) : Option (Nat × Sem) → RM D
  | some (a, F) => bindR (evs es δ μ) (kd3 a F)
  | none => none
def kd1 (tb : List (Str × Nat × Sem)) (es : Es) (δ : List Sl) (μ : List Mo) : Option Sl → RM D
  | some (.d (.glo x)) => kd2 es δ μ (tb.lookup x)
  | _ => none
def klc (i : Nat) (δ : List Sl) : D → List Mo → SM
  | .lst xs, μ => some (.nx, δ.set i (.lin xs), μ)
  | _, _ => none
def klp2 (i : Nat) (δ : List Sl) (xs : List D) (v : D) : D → List Mo → SM
  | .int k, μ => (L2.ixN xs.length k).bind fun n => some (.nx, δ.set i (.lin (xs.set n v)), μ)
  | _, _ => none
def klp1 (i : Nat) (j : E) (δ : List Sl) (v : D) (μ : List Mo) : Option Sl → SM
  | some (.lin xs) => thenE (ev j δ μ) δ (klp2 i δ xs v)
  | _ => none
def klp0 (i : Nat) (j : E) (δ : List Sl) (v : D) (μ : List Mo) : SM := klp1 i j δ v μ δ[i]?
def ksl (i j : Nat) (δ : List Sl) (x : D) (μ : List Mo) : SM := some (.nx, (δ.set i (.d x)).set j (.lin []), μ)
section
variable {δ : List Sl} {μ : List Mo} {a b c e j : E} {es : Es} {i k : Nat} {d x y : D} {xs : List D} {F : Sem} {tb : List (Str × Nat × Sem)}
@[simp] theorem e_dyn : ev (.dyn i tb es) δ μ = kd1 tb es δ μ δ[i]? := by
  simp only [ev]
  generalize δ[i]? = o
  rcases o with _ | o
  · rfl
  · cases o with
    | d z =>
      cases z with
      | glo z =>
        simp only [kd1]
        cases tb.lookup z with
        | none => rfl
        | some p => rfl
      | _ => rfl
    | _ => rfl
@[simp] theorem e_kd1 {z : Str} : kd1 tb es δ μ (some (.d (.glo z))) = kd2 es δ μ (tb.lookup z) := nr rfl
@[simp] theorem e_kd2 {n : Nat} : kd2 es δ μ (some (n, F)) = bindR (evs es δ μ) (kd3 n F) := nr rfl
@[simp] theorem e_kd3 {n : Nat} (h : xs.length = n) : kd3 n F xs μ = F xs μ := if_pos h
@[simp] theorem x_linc : ex (.linc i e) δ μ = thenE (ev e δ μ) δ (klc i δ) := by simp only [ex]; exact tx fun d μ => by cases d <;> rfl
@[simp] theorem x_klc : klc i δ (.lst xs) μ = some (.nx, δ.set i (.lin xs), μ) := nr rfl
@[simp] theorem x_lput : ex (.lput i j e) δ μ = thenE (ev e δ μ) δ (klp0 i j δ) := by
  simp only [ex]
  refine tx fun d μ => ?_
  unfold klp0
  generalize δ[i]? = o
  rcases o with _ | o
  · rfl
  · cases o with
    | lin xs => exact tx fun d μ => by cases d <;> rfl
    | _ => rfl
@[simp] theorem x_klp0 : klp0 i j δ d μ = klp1 i j δ d μ δ[i]? := nr rfl
@[simp] theorem x_klp1 : klp1 i j δ d μ (some (.lin xs)) = thenE (ev j δ μ) δ (klp2 i δ xs d) := nr rfl
@[simp] theorem x_klp2 {k : Int} : klp2 i δ xs d (.int k) μ = (L2.ixN xs.length k).bind fun n => some (.nx, δ.set i (.lin (xs.set n d)), μ) := nr rfl
@[simp] theorem x_setl : ex (.setl i k e) δ μ = thenE (ev e δ μ) δ (ksl i k δ) := by simp only [ex]; rfl
@[simp] theorem x_ksl : ksl i k δ x μ = some (.nx, (δ.set i (.d x)).set k (.lin []), μ) := nr rfl
end
end Ev
set_option Elab.async false
set_option linter.all false
set_option maxRecDepth 100000
set_option maxHeartbeats 0
/-! What is read off the defs of the text, made by wip/genlaw.py; each reading is computed anew here. -/
namespace K17
open PySem PySem.Spec PyProof.Rows L2 Mi Pg
abbrev PW : Program := PySem.Challenge.pw_allcards_k17_texts_spoilt
def top (i : Nat) : Stmt := PW.main.body.getD i (.Pass ⟨0, 0, 0, 0⟩)
def csL : List Str := [("InvalidBoard" : Str), ("InvalidRow" : Str), ("InvalidDeck" : Str), ("InvalidCard" : Str), ("InvalidPattern" : Str), ("InvalidForm" : Str), ("InvalidIndex" : Str), ("InvalidFactors" : Str), ("InvalidSeen" : Str), ("InvalidLevel" : Str), ("NoCard" : Str), ("NothingToUndo" : Str), ("TooMany" : Str), ("InvalidText" : Str), ("ValueError" : Str)]
def labL : Str := "board row deck card pattern form index factors seen level none undo many text value"
def lbl : List (Str × List Bool) := []
def cons : List (Str × D) := [("MOST_WIRES", (.int (8))), ("TIMES", (.tup [(.str "card"), (.str "hole"), (.str "plain"), (.str "minor"), (.str "major")])), ("DIGITS", (.str "0123456789"))]
def excs : List Str := []
def cf0 : Cf := { fns := [], cons := cons, excs := excs, err := none, xcs := ["InvalidText"], tru := [] }
def mst (i : Nat) : Stmt := match top i with | .ClassDef _ _ _ b _ _ _ _ _ _ _ => b.getD 0 (.Pass ⟨0, 0, 0, 0⟩) | _ => .Pass ⟨0, 0, 0, 0⟩
def xcl : List (Str × Str) := [("InvalidText", "CardError")]
theorem rd_is_whole : cSsF (cf0.at [] [] [] false) (cS (cf0.at [] [] [] false) N_is_whole 40 (defScope (top 6))) (defBody (top 6)) = some B_is_whole := by kernel_rfl
theorem sc_is_whole : scB N_is_whole ["value", "low", "high"] (defScope (top 6)) = true := by kernel_rfl
theorem rd_is_word : cSsF (cf0.at [] [] [] false) (cS (cf0.at [] [] [] false) N_is_word 40 (defScope (top 7))) (defBody (top 7)) = some B_is_word := by kernel_rfl
theorem sc_is_word : scB N_is_word ["value", "words"] (defScope (top 7)) = true := by kernel_rfl
theorem rd_part_of : cSsF (cf0.at [] [] [] false) (cS (cf0.at [] [] [] false) N_part_of 40 (defScope (top 15))) (defBody (top 15)) = some B_part_of := by kernel_rfl
theorem sc_part_of : scB N_part_of ["word"] (defScope (top 15)) = true := by kernel_rfl
theorem rd__law_vat : cSsF (cf0.at [] [(92, 11)] [] false) (cS (cf0.at [] [(92, 11)] [] false) N__law_vat 40 (defScope (top 21))) (defBody (top 21)) = some B__law_vat := by kernel_rfl
theorem sc__law_vat : scB N__law_vat ["script", "k"] (defScope (top 21)) = true := by kernel_rfl
theorem rd__law_under : cSsF (cf0.at [] [] [] false) (cS (cf0.at [] [] [] false) N__law_under 40 (defScope (top 22))) (defBody (top 22)) = some B__law_under := by kernel_rfl
theorem sc__law_under : scB N__law_under ["vat", "many"] (defScope (top 22)) = true := by kernel_rfl
theorem rd__law_is_whole : cSsF (cf0.at [] [] [] false) (cS (cf0.at [] [] [] false) N__law_is_whole 40 (defScope (top 24))) (defBody (top 24)) = some B__law_is_whole := by kernel_rfl
theorem sc__law_is_whole : scB N__law_is_whole ["value", "low", "high"] (defScope (top 24)) = true := by kernel_rfl
theorem rd__law_is_one_of : cSsF (cf0.at [] [] [] false) (cS (cf0.at [] [] [] false) N__law_is_one_of 40 (defScope (top 25))) (defBody (top 25)) = some B__law_is_one_of := by kernel_rfl
theorem sc__law_is_one_of : scB N__law_is_one_of ["value", "some"] (defScope (top 25)) = true := by kernel_rfl
theorem rd__law_words : cSsF (cf0.at [] [] [] false) (cS (cf0.at [] [] [] false) N__law_words 40 (defScope (top 34))) (defBody (top 34)) = some B__law_words := by kernel_rfl
theorem sc__law_words : scB N__law_words ["wire"] (defScope (top 34)) = true := by kernel_rfl
theorem rd__law_part : cSsF (cf0.at [] [] [] false) (cS (cf0.at [] [] [] false) N__law_part 40 (defScope (top 37))) (defBody (top 37)) = some B__law_part := by kernel_rfl
theorem sc__law_part : scB N__law_part ["word"] (defScope (top 37)) = true := by kernel_rfl
def cf1 : Cf := { cf0 with fns := ("_law_part", 1, F_law_part) :: ("_law_words", 1, F_law_words) :: ("_law_is_one_of", 2, F_law_is_one_of) :: ("_law_is_whole", 3, F_law_is_whole) :: ("_law_under", 2, F_law_under) :: ("_law_vat", 2, F_law_vat) :: ("part_of", 1, Fpart_of) :: ("is_word", 2, Fis_word) :: ("is_whole", 3, Fis_whole) :: cf0.fns }
theorem rd_is_source : cSsF (cf1.at [] [] [] false) (cS (cf1.at [] [] [] false) N_is_source 40 (defScope (top 8))) (defBody (top 8)) = some B_is_source := by kernel_rfl
theorem sc_is_source : scB N_is_source ["board", "when", "value"] (defScope (top 8)) = true := by kernel_rfl
theorem rd_action_of : cSsF (cf1.at [] [] [] false) (cS (cf1.at [] [] [] false) N_action_of 40 (defScope (top 16))) (defBody (top 16)) = some B_action_of := by kernel_rfl
theorem sc_action_of : scB N_action_of ["words"] (defScope (top 16)) = true := by kernel_rfl
theorem rd__law_some : cSsF (cf1.at [] [] [] false) (cS (cf1.at [] [] [] false) N__law_some 40 (defScope (top 23))) (defBody (top 23)) = some B__law_some := by kernel_rfl
theorem sc__law_some : scB N__law_some ["vat", "things"] (defScope (top 23)) = true := by kernel_rfl
theorem rd__law_is_from : cSsF (cf1.at [] [] [] false) (cS (cf1.at [] [] [] false) N__law_is_from 40 (defScope (top 26))) (defBody (top 26)) = some B__law_is_from := by kernel_rfl
theorem sc__law_is_from : scB N__law_is_from ["frame", "when", "value"] (defScope (top 26)) = true := by kernel_rfl
theorem rd__law_lines : cSsF (cf1.at [] [] [] false) (cS (cf1.at [] [] [] false) N__law_lines 40 (defScope (top 35))) (defBody (top 35)) = some B__law_lines := by kernel_rfl
theorem sc__law_lines : scB N__law_lines ["board"] (defScope (top 35)) = true := by kernel_rfl
theorem rd__law_wire_of : cSsF (cf1.at [] [] [] false) (cS (cf1.at [] [] [] false) N__law_wire_of 40 (defScope (top 38))) (defBody (top 38)) = some B__law_wire_of := by kernel_rfl
theorem sc__law_wire_of : scB N__law_wire_of ["line"] (defScope (top 38)) = true := by kernel_rfl
def cf2 : Cf := { cf1 with fns := ("_law_wire_of", 1, F_law_wire_of) :: ("_law_lines", 1, F_law_lines) :: ("_law_is_from", 3, F_law_is_from) :: ("_law_some", 2, F_law_some) :: ("action_of", 1, Faction_of) :: ("is_source", 3, Fis_source) :: cf1.fns }
theorem rd_is_printing : cSsF (cf2.at [] [] [] false) (cS (cf2.at [] [] [] false) N_is_printing 40 (defScope (top 9))) (defBody (top 9)) = some B_is_printing := by kernel_rfl
theorem sc_is_printing : scB N_is_printing ["board", "when", "value"] (defScope (top 9)) = true := by kernel_rfl
theorem rd_wire_of : cSsF (cf2.at [] [] [] false) (cS (cf2.at [] [] [] false) N_wire_of 40 (defScope (top 17))) (defBody (top 17)) = some B_wire_of := by kernel_rfl
theorem sc_wire_of : scB N_wire_of ["line"] (defScope (top 17)) = true := by kernel_rfl
theorem rd__law_is_act : cSsF (cf2.at [] [] [] false) (cS (cf2.at [] [] [] false) N__law_is_act 40 (defScope (top 27))) (defBody (top 27)) = some B__law_is_act := by kernel_rfl
theorem sc__law_is_act : scB N__law_is_act ["frame", "when", "value"] (defScope (top 27)) = true := by kernel_rfl
theorem rd__law_act : cSsF (cf2.at [] [] [] false) (cS (cf2.at [] [] [] false) N__law_act 40 (defScope (top 30))) (defBody (top 30)) = some B__law_act := by kernel_rfl
theorem sc__law_act : scB N__law_act ["vat", "frame", "when"] (defScope (top 30)) = true := by kernel_rfl
theorem rd0__law_odd : cSsF (cf2.at [] [] [] false) (cS (cf2.at [] [] [] false) N__law_odd 40 (defScope (top 33))) (defBody (top 33)) = some B0__law_odd := by kernel_rfl
theorem rd__law_odd (F : Sem) : cSsF (({ cf2 with fns := ("_law_odd", 2, F) :: cf2.fns } : Cf).at [] [] [] false) (cS (({ cf2 with fns := ("_law_odd", 2, F) :: cf2.fns } : Cf).at [] [] [] false) N__law_odd 40 (defScope (top 33))) (defBody (top 33)) = some (B__law_odd F) := by kernel_rfl
theorem sc__law_odd : scB N__law_odd ["vat", "depth"] (defScope (top 33)) = true := by kernel_rfl
theorem rd__law_spoilt : cSsF (cf2.at [] [] [] false) (cS (cf2.at [] [] [] false) N__law_spoilt 40 (defScope (top 40))) (defBody (top 40)) = some B__law_spoilt := by kernel_rfl
theorem sc__law_spoilt : scB N__law_spoilt ["vat", "text"] (defScope (top 40)) = true := by kernel_rfl
def cf3 : Cf := { cf2 with fns := ("_law_spoilt", 2, F_law_spoilt) :: ("_law_odd", 2, F_law_odd) :: ("_law_act", 3, F_law_act) :: ("_law_is_act", 3, F_law_is_act) :: ("wire_of", 1, Fwire_of) :: ("is_printing", 3, Fis_printing) :: cf2.fns }
theorem rd_is_action : cSsF (cf3.at [] [] [] false) (cS (cf3.at [] [] [] false) N_is_action 40 (defScope (top 10))) (defBody (top 10)) = some B_is_action := by kernel_rfl
theorem sc_is_action : scB N_is_action ["board", "when", "value"] (defScope (top 10)) = true := by kernel_rfl
theorem rd__law_is_wire : cSsF (cf3.at [] [] [] false) (cS (cf3.at [] [] [] false) N__law_is_wire 40 (defScope (top 28))) (defBody (top 28)) = some B__law_is_wire := by kernel_rfl
theorem sc__law_is_wire : scB N__law_is_wire ["frame", "value"] (defScope (top 28)) = true := by kernel_rfl
theorem rd__law_wire : cSsF (cf3.at [] [] [] false) (cS (cf3.at [] [] [] false) N__law_wire 40 (defScope (top 31))) (defBody (top 31)) = some B__law_wire := by kernel_rfl
theorem sc__law_wire : scB N__law_wire ["vat", "frame"] (defScope (top 31)) = true := by kernel_rfl
def cf4 : Cf := { cf3 with fns := ("_law_wire", 2, F_law_wire) :: ("_law_is_wire", 2, F_law_is_wire) :: ("is_action", 3, Fis_action) :: cf3.fns }
theorem rd_is_wire : cSsF (cf4.at [] [] [] false) (cS (cf4.at [] [] [] false) N_is_wire 40 (defScope (top 11))) (defBody (top 11)) = some B_is_wire := by kernel_rfl
theorem sc_is_wire : scB N_is_wire ["board", "value"] (defScope (top 11)) = true := by kernel_rfl
theorem rd__law_is_board : cSsF (cf4.at [] [] [] false) (cS (cf4.at [] [] [] false) N__law_is_board 40 (defScope (top 29))) (defBody (top 29)) = some B__law_is_board := by kernel_rfl
theorem sc__law_is_board : scB N__law_is_board ["value"] (defScope (top 29)) = true := by kernel_rfl
theorem rd__law_board : cSsF (cf4.at [] [] [] false) (cS (cf4.at [] [] [] false) N__law_board 40 (defScope (top 32))) (defBody (top 32)) = some B__law_board := by kernel_rfl
theorem sc__law_board : scB N__law_board ["vat", "most"] (defScope (top 32)) = true := by kernel_rfl
def cf5 : Cf := { cf4 with fns := ("_law_board", 2, F_law_board) :: ("_law_is_board", 1, F_law_is_board) :: ("is_wire", 2, Fis_wire) :: cf4.fns }
theorem rd_is_board : cSsF (cf5.at [] [] [] false) (cS (cf5.at [] [] [] false) N_is_board 40 (defScope (top 12))) (defBody (top 12)) = some B_is_board := by kernel_rfl
theorem sc_is_board : scB N_is_board ["value"] (defScope (top 12)) = true := by kernel_rfl
theorem rd__law_due : cSsF (cf5.at [] [] [] false) (cS (cf5.at [] [] [] false) N__law_due__2 40 (defScope (top 39))) (defBody (top 39)) = some B__law_due__2 := by kernel_rfl
theorem sc__law_due : scB N__law_due__2 ["value"] (defScope (top 39)) = true := by kernel_rfl
def cf6 : Cf := { cf5 with fns := ("_law_due", 1, F_law_due__2) :: ("is_board", 1, Fis_board) :: cf5.fns }
theorem rd_head_of : cSsF (cf6.at [] [] [] false) (cS (cf6.at [] [] [] false) N_head_of 40 (defScope (top 18))) (defBody (top 18)) = some B_head_of := by kernel_rfl
theorem sc_head_of : scB N_head_of ["line"] (defScope (top 18)) = true := by kernel_rfl
def cf7 : Cf := { cf6 with fns := ("head_of", 1, Fhead_of) :: cf6.fns }
theorem rd_read_board : cSsF (cf7.at [] [] [] false) (cS (cf7.at [] [] [] false) N_read_board 40 (defScope (top 19))) (defBody (top 19)) = some B_read_board := by kernel_rfl
theorem sc_read_board : scB N_read_board ["value"] (defScope (top 19)) = true := by kernel_rfl
def cf8 : Cf := { cf7 with fns := ("read_board", 1, Fread_board) :: cf7.fns }
def F_law_read : Sem := readS Fread_board "InvalidText"
def cf9 : Cf := { cf8 with fns := ("_law_read", 1, F_law_read) :: cf8.fns }
def N_law : List Str := ["script", "k", "vat", "text", "values", "change", "value", "line", "rows", "due"]
def B_law : Ss := (.cons (.for_ (.name 1) (.rng (.bi .max (.cons (.con (.int (6))) (.cons (.bi .min (.cons (.con (.int (14))) (.cons (.bi .len (.cons (.var 0) .nil)) .nil))) .nil)))) (.cons (.set (.name 2) (.call F_law_vat (.cons (.var 0) (.cons (.var 1) .nil)))) (.cons (.set (.name 3) (.meth .join (.con (.str "\n")) (.cons (.call F_law_lines (.cons (.call F_law_board (.cons (.var 2) (.cons (.con (.int (8))) .nil))) .nil)) .nil))) (.cons (.lin 4 (.cons (.var 3) (.cons (.op .add (.var 3) (.con (.str "\n"))) (.cons (.op .add (.con (.str " ")) (.var 3)) (.cons (.call F_law_odd (.cons (.var 2) (.cons (.con (.int (2))) .nil))) (.cons (.lst (.cons (.var 3) .nil)) (.cons (.meth .upper (.var 3) .nil) .nil))))))) (.cons (.for_ (.name 5) (.rng (.con (.int (5)))) (.cons (.set (.name 3) (.call F_law_spoilt (.cons (.var 2) (.cons (.var 3) .nil)))) (.cons (.app 4 (.var 3)) .nil))) (.cons (.still 4) (.cons (.for_ (.name 6) (.seq (.var 4)) (.cons (.ite (.op .ne (.call F_law_read (.cons (.var 6) .nil)) (.call F_law_due__2 (.cons (.var 6) .nil))) (.cons (.ret (.con (.bl false))) .nil) .nil) .nil)) .nil))))))) (.cons (.set (.name 7) (.con (.str "\ncard print x"))) (.cons (.lin 8 (.cons (.tup (.cons (.con (.str "")) (.cons (.con (.int (1))) .nil))) (.cons (.tup (.cons (.con (.str "board 1")) (.cons (.con (.int (1))) .nil))) (.cons (.tup (.cons (.con (.str "board 4 0")) (.cons (.con (.int (1))) .nil))) (.cons (.tup (.cons (.con (.str "board 0 3")) (.cons (.con (.int (1))) .nil))) (.cons (.tup (.cons (.con (.str "board 01 0")) (.cons (.con (.int (1))) .nil))) (.cons (.tup (.cons (.con (.str "board 0 0\n")) (.cons (.con (.int (2))) .nil))) .nil))))))) (.cons (.still 8) (.cons (.linc 8 (.op .add (.var 8) (.lst (.cons (.tup (.cons (.op .add (.con (.str "board 0 0")) (.op .mul (.var 7) (.con (.int (9))))) (.cons (.con (.int (10))) .nil))) (.cons (.tup (.cons (.op .add (.op .add (.con (.str "board 0 0")) (.op .mul (.var 7) (.con (.int (8))))) (.con (.str "\ncard"))) (.cons (.con (.int (10))) .nil))) (.cons (.tup (.cons (.op .add (.con (.str "board 0 0")) (.op .mul (.var 7) (.con (.int (10))))) (.cons (.con (.int (10))) .nil))) .nil)))))) (.cons (.still 8) (.cons (.linc 8 (.op .add (.var 8) (.lst (.cons (.tup (.cons (.con (.str "board 1 0\ncard add x 1")) (.cons (.con (.int (2))) .nil))) (.cons (.tup (.cons (.op .add (.op .add (.con (.str "board 1 0")) (.var 7)) (.con (.str "\nminor add x 0"))) (.cons (.con (.int (3))) .nil))) .nil))))) (.cons (.app 8 (.tup (.cons (.con (.str "board 1 1\ncard if 1 on 0")) (.cons (.con (.int (2))) .nil)))) (.cons (.still 8) (.cons (.linc 8 (.op .add (.var 8) (.lst (.cons (.tup (.cons (.con (.str "board 0 0\ncard print")) (.cons (.con (.int (2))) .nil))) (.cons (.tup (.cons (.con (.str "board 0 0\ncard print x x x x")) (.cons (.con (.int (2))) .nil))) (.cons (.tup (.cons (.con (.str "board 1 0\ncard clear x")) (.cons (.con (.int (2))) .nil))) .nil)))))) (.cons (.still 8) (.cons (.ret (.op .eq (.comp (.var 3) (.pair (.name 3) (.name 9)) (.seq (.var 8)) (.op .ne (.call F_law_read (.cons (.var 3) .nil)) (.var 9)) [3, 9]) (.lst .nil))) .nil))))))))))))
def Flaw : Sem := run 1 10 B_law
theorem rd_law : cSsF (cf9.at [4, 8] [] [(243, [4]), (248, [8]), (249, [8]), (251, [8]), (252, [8])] false) (cS (cf9.at [4, 8] [] [(243, [4]), (248, [8]), (249, [8]), (251, [8]), (252, [8])] false) N_law 40 (defScope (top 41))) (defBody (top 41)) = some B_law := by kernel_rfl
theorem sc_law : scB N_law ["script"] (defScope (top 41)) = true := by kernel_rfl
def gloL : List Str := [("CardError" : Str), ("InvalidText" : Str), ("is_whole" : Str), ("is_word" : Str), ("is_source" : Str), ("is_printing" : Str), ("is_action" : Str), ("is_wire" : Str), ("is_board" : Str), ("part_of" : Str), ("action_of" : Str), ("wire_of" : Str), ("head_of" : Str), ("read_board" : Str), ("_law_vat" : Str), ("_law_under" : Str), ("_law_some" : Str), ("_law_is_whole" : Str), ("_law_is_one_of" : Str), ("_law_is_from" : Str), ("_law_is_act" : Str), ("_law_is_wire" : Str), ("_law_is_board" : Str), ("_law_act" : Str), ("_law_wire" : Str), ("_law_board" : Str), ("_law_odd" : Str), ("_law_words" : Str), ("_law_lines" : Str), ("_law_read" : Str), ("_law_part" : Str), ("_law_wire_of" : Str), ("_law_due" : Str), ("_law_spoilt" : Str), ("law" : Str)]
def gloA : List Str := gloL
open He in
def fn0 : List He.DefD := [dfd "is_whole" (top 6), dfd "is_word" (top 7), dfd "is_source" (top 8), dfd "is_printing" (top 9), dfd "is_action" (top 10), dfd "is_wire" (top 11), dfd "is_board" (top 12), dfd "part_of" (top 15), dfd "action_of" (top 16), dfd "wire_of" (top 17), dfd "head_of" (top 18), dfd "read_board" (top 19), dfd "_law_vat" (top 21), dfd "_law_under" (top 22), dfd "_law_some" (top 23), dfd "_law_is_whole" (top 24), dfd "_law_is_one_of" (top 25), dfd "_law_is_from" (top 26), dfd "_law_is_act" (top 27), dfd "_law_is_wire" (top 28), dfd "_law_is_board" (top 29), dfd "_law_act" (top 30), dfd "_law_wire" (top 31), dfd "_law_board" (top 32), dfd "_law_odd" (top 33), dfd "_law_words" (top 34), dfd "_law_lines" (top 35), dfd "_law_read" (top 36), dfd "_law_part" (top 37), dfd "_law_wire_of" (top 38), dfd "_law_due" (top 39), dfd "_law_spoilt" (top 40), dfd "law" (top 41)]
def fnI : List He.DefD := [mdd "InvalidText" "InvalidText.__init__" (mst 2)]
def fn : List He.DefD := fn0 ++ fnI
def fa : List He.Fa := gloA.map He.Fa.glo ++ (biNames.map He.Fa.free ++ excs.map He.Fa.exc)
def tf : List Str := []
def ex (K : PySem.W.Frag) : Bool := (cons.all fun p => conB K p) && ((lbl.all fun p => lblB K labL csL "CardError" p.1 p.2) && ((xcl.all fun p => xcB K p.1 p.2) && decide (tf.map fun x => (He.cT K (x, none)).2).Nodup))
abbrev R : PySem.W.OpenRow := PySem.W.OpenLaw.row PySem.Challenge.rw_allcards_k17_texts_spoilt
abbrev hk : PySem.W.Hook := Mi.hookY 5 fa fn [] (tf.map fun x => (x, none)) ex
def ob (s : PySem.W.SharedT) : He.AlX := Mi.obsY 5 fa fn [] (tf.map fun x => (x, none)) ex (HandSHeadRun.getT s)
theorem ob_eq (s : PySem.W.SharedT) : ob s = hk.obs s.abs   := Mi.obsY_eq (HandSHeadRun.getT_eq s)
def loose0 : List Str := [("CardError" : Str), ("InvalidText" : Str), ("MOST_WIRES" : Str), ("TIMES" : Str), ("is_whole" : Str), ("is_word" : Str), ("is_source" : Str), ("is_printing" : Str), ("is_action" : Str), ("is_wire" : Str), ("is_board" : Str), ("DIGITS" : Str), ("part_of" : Str), ("action_of" : Str), ("wire_of" : Str), ("head_of" : Str), ("read_board" : Str), ("_law_vat" : Str), ("_law_under" : Str), ("_law_some" : Str), ("_law_is_whole" : Str), ("_law_is_one_of" : Str), ("_law_is_from" : Str), ("_law_is_act" : Str), ("_law_is_wire" : Str), ("_law_is_board" : Str), ("_law_act" : Str), ("_law_wire" : Str), ("_law_board" : Str), ("_law_odd" : Str), ("_law_words" : Str), ("_law_lines" : Str), ("_law_read" : Str), ("_law_part" : Str), ("_law_wire_of" : Str), ("_law_due" : Str), ("_law_spoilt" : Str)]
def loose : List Str := loose0
theorem run (w : World) : HandSHeadRun.RunEq R (PySem.W.view R.prog [41]) hk ob 6000 loose w := by
  intro os
  kernel_rfl
theorem memg {x : Str} (i : Nat) (h : gloA[i]? = some x) : He.Fa.glo x ∈ fa := List.mem_append_left _ (List.mem_map.mpr ⟨x, List.mem_of_getElem? h, rfl⟩)
theorem memb : ∀ x ∈ biNames, He.Fa.free x ∈ fa := fun x h => List.mem_append_right _ (List.mem_append_left _ (List.mem_map.mpr ⟨x, h, rfl⟩))
theorem meme : ∀ x ∈ excs, He.Fa.exc x ∈ fa := fun x h => List.mem_append_right _ (List.mem_append_right _ (List.mem_map.mpr ⟨x, h, rfl⟩))
theorem exc_glo : ∀ x ∈ excs, x ∈ gloA := by decide +kernel
theorem facts {w : World} {K : PySem.W.Frag} {h : Heap} {mg : Str → Option Value} (X : K.In h) (G : h.Ns mainGlobals mg) (c : He.SaysD fa fn K) (hex : ex K = true) :
    ∃ fd, mg ("law" : Str) = some (.ref (He.ga K "law")) ∧ (∀ (s : Shared) (u : Value), BindsTo s fd ⟨[u], []⟩ [("script", u)]) ∧ ∀ base : Heap, (∀ y ∈ tf, LamX.TabB base mg (He.cT K (y, none)).1 (He.cT K (y, none)).2) → FnOk PW w K mg base (L2N.CX PW w) 42 (He.ga K "law") fd ["script"] (spF K mg (tabL w K tf) 1 Flaw) := by
  obtain ⟨hcon, hex⟩ := He.ba hex
  obtain ⟨hlbl, hnd⟩ := He.ba hex
  obtain ⟨hxb, hnd⟩ := He.ba hnd
  have hnd := of_decide_eq_true hnd
  obtain ⟨fd, FD⟩ := c.defs (List.mem_of_getElem? (l := fn) (i := 32) (a := dfd "law" (top 41)) rfl)
  have FD : FunD K "law" "law" (defArgs (top 41)) (defBody (top 41)) (defScope (top 41)) [] [] (He.ga K "law") fd := FD
  have hb : BindOk "law" "law" (defArgs (top 41)) (defBody (top 41)) (defScope (top 41)) ["script"] := fun _ _ _ _ _ _ us hl => match us, hl with | [_], _ => rfl
  refine ⟨fd, He.glo_ok X G (c.facts (memg 34 rfl)), fun s u => FD.bindsA (ps := ["script"]) hb s [u] rfl, fun base TB => ?_⟩
  have xb_InvalidText : xcB K "InvalidText" "CardError" = true := List.all_eq_true.mp hxb ("InvalidText", "CardError") (by simp [xcl])
  have w0 : Wd PW w K mg base (tabL w K tf) cf0 0 := wd0 rfl X G c rfl memb hcon (fun x hx => ⟨meme x hx, List.mem_append_left _ (List.mem_map.mpr ⟨x, exc_glo x hx, rfl⟩)⟩) (fun x n e => by cases e) (fun c0 hc0 => by
    simp only [cf0, List.mem_singleton] at hc0
    subst hc0
    exact ⟨_, xcD_of (N := ["self", "line"]) X G c (List.mem_of_getElem? (l := fn) (i := 33) rfl) (memg 1 rfl) (memg 0 rfl) xb_InvalidText (by kernel_rfl) (fun _ _ _ _ _ _ us hl => match us, hl with | [_, _], _ => rfl) (by kernel_rfl)⟩)
  have k_is_whole : Kn PW w K mg base (tabL w K tf) 3 "is_whole" 3 Fis_whole := kn_of (ps := ["value", "low", "high"]) w0 X G c (List.mem_of_getElem? (l := fn) (i := 0) (a := dfd "is_whole" (top 6)) rfl) (memg 2 rfl) (fun _ _ _ _ _ _ us hl => match us, hl with | [_, _, _], _ => rfl) sc_is_whole rd_is_whole rfl (fun z => by cases z)
  have k_is_word : Kn PW w K mg base (tabL w K tf) 3 "is_word" 2 Fis_word := kn_of (ps := ["value", "words"]) w0 X G c (List.mem_of_getElem? (l := fn) (i := 1) (a := dfd "is_word" (top 7)) rfl) (memg 3 rfl) (fun _ _ _ _ _ _ us hl => match us, hl with | [_, _], _ => rfl) sc_is_word rd_is_word rfl (fun z => by cases z)
  have k_part_of : Kn PW w K mg base (tabL w K tf) 3 "part_of" 1 Fpart_of := kn_of (ps := ["word"]) w0 X G c (List.mem_of_getElem? (l := fn) (i := 7) (a := dfd "part_of" (top 15)) rfl) (memg 9 rfl) (fun _ _ _ _ _ _ us hl => match us, hl with | [_], _ => rfl) sc_part_of rd_part_of rfl (fun z => by cases z)
  have k__law_vat : Kn PW w K mg base (tabL w K tf) 3 "_law_vat" 2 F_law_vat := kn_of (ps := ["script", "k"]) w0 X G c (List.mem_of_getElem? (l := fn) (i := 12) (a := dfd "_law_vat" (top 21)) rfl) (memg 14 rfl) (fun _ _ _ _ _ _ us hl => match us, hl with | [_, _], _ => rfl) sc__law_vat rd__law_vat rfl (fun z => by cases z)
  have k__law_under : Kn PW w K mg base (tabL w K tf) 3 "_law_under" 2 F_law_under := kn_of (ps := ["vat", "many"]) w0 X G c (List.mem_of_getElem? (l := fn) (i := 13) (a := dfd "_law_under" (top 22)) rfl) (memg 15 rfl) (fun _ _ _ _ _ _ us hl => match us, hl with | [_, _], _ => rfl) sc__law_under rd__law_under rfl (fun z => by cases z)
  have k__law_is_whole : Kn PW w K mg base (tabL w K tf) 3 "_law_is_whole" 3 F_law_is_whole := kn_of (ps := ["value", "low", "high"]) w0 X G c (List.mem_of_getElem? (l := fn) (i := 15) (a := dfd "_law_is_whole" (top 24)) rfl) (memg 17 rfl) (fun _ _ _ _ _ _ us hl => match us, hl with | [_, _, _], _ => rfl) sc__law_is_whole rd__law_is_whole rfl (fun z => by cases z)
  have k__law_is_one_of : Kn PW w K mg base (tabL w K tf) 3 "_law_is_one_of" 2 F_law_is_one_of := kn_of (ps := ["value", "some"]) w0 X G c (List.mem_of_getElem? (l := fn) (i := 16) (a := dfd "_law_is_one_of" (top 25)) rfl) (memg 18 rfl) (fun _ _ _ _ _ _ us hl => match us, hl with | [_, _], _ => rfl) sc__law_is_one_of rd__law_is_one_of rfl (fun z => by cases z)
  have k__law_words : Kn PW w K mg base (tabL w K tf) 3 "_law_words" 1 F_law_words := kn_of (ps := ["wire"]) w0 X G c (List.mem_of_getElem? (l := fn) (i := 25) (a := dfd "_law_words" (top 34)) rfl) (memg 27 rfl) (fun _ _ _ _ _ _ us hl => match us, hl with | [_], _ => rfl) sc__law_words rd__law_words rfl (fun z => by cases z)
  have k__law_part : Kn PW w K mg base (tabL w K tf) 3 "_law_part" 1 F_law_part := kn_of (ps := ["word"]) w0 X G c (List.mem_of_getElem? (l := fn) (i := 28) (a := dfd "_law_part" (top 37)) rfl) (memg 30 rfl) (fun _ _ _ _ _ _ us hl => match us, hl with | [_], _ => rfl) sc__law_part rd__law_part rfl (fun z => by cases z)
  have w1 : Wd PW w K mg base (tabL w K tf) cf1 3 := (((((((((w0.add (by decide) k_is_whole).add (Nat.le_refl _) k_is_word).add (Nat.le_refl _) k_part_of).add (Nat.le_refl _) k__law_vat).add (Nat.le_refl _) k__law_under).add (Nat.le_refl _) k__law_is_whole).add (Nat.le_refl _) k__law_is_one_of).add (Nat.le_refl _) k__law_words).add (Nat.le_refl _) k__law_part)
  have k_is_source : Kn PW w K mg base (tabL w K tf) 6 "is_source" 3 Fis_source := kn_of (ps := ["board", "when", "value"]) w1 X G c (List.mem_of_getElem? (l := fn) (i := 2) (a := dfd "is_source" (top 8)) rfl) (memg 4 rfl) (fun _ _ _ _ _ _ us hl => match us, hl with | [_, _, _], _ => rfl) sc_is_source rd_is_source rfl (fun z => by cases z)
  have k_action_of : Kn PW w K mg base (tabL w K tf) 6 "action_of" 1 Faction_of := kn_of (ps := ["words"]) w1 X G c (List.mem_of_getElem? (l := fn) (i := 8) (a := dfd "action_of" (top 16)) rfl) (memg 10 rfl) (fun _ _ _ _ _ _ us hl => match us, hl with | [_], _ => rfl) sc_action_of rd_action_of rfl (fun z => by cases z)
  have k__law_some : Kn PW w K mg base (tabL w K tf) 6 "_law_some" 2 F_law_some := kn_of (ps := ["vat", "things"]) w1 X G c (List.mem_of_getElem? (l := fn) (i := 14) (a := dfd "_law_some" (top 23)) rfl) (memg 16 rfl) (fun _ _ _ _ _ _ us hl => match us, hl with | [_, _], _ => rfl) sc__law_some rd__law_some rfl (fun z => by cases z)
  have k__law_is_from : Kn PW w K mg base (tabL w K tf) 6 "_law_is_from" 3 F_law_is_from := kn_of (ps := ["frame", "when", "value"]) w1 X G c (List.mem_of_getElem? (l := fn) (i := 17) (a := dfd "_law_is_from" (top 26)) rfl) (memg 19 rfl) (fun _ _ _ _ _ _ us hl => match us, hl with | [_, _, _], _ => rfl) sc__law_is_from rd__law_is_from rfl (fun z => by cases z)
  have k__law_lines : Kn PW w K mg base (tabL w K tf) 6 "_law_lines" 1 F_law_lines := kn_of (ps := ["board"]) w1 X G c (List.mem_of_getElem? (l := fn) (i := 26) (a := dfd "_law_lines" (top 35)) rfl) (memg 28 rfl) (fun _ _ _ _ _ _ us hl => match us, hl with | [_], _ => rfl) sc__law_lines rd__law_lines rfl (fun z => by cases z)
  have k__law_wire_of : Kn PW w K mg base (tabL w K tf) 6 "_law_wire_of" 1 F_law_wire_of := kn_of (ps := ["line"]) w1 X G c (List.mem_of_getElem? (l := fn) (i := 29) (a := dfd "_law_wire_of" (top 38)) rfl) (memg 31 rfl) (fun _ _ _ _ _ _ us hl => match us, hl with | [_], _ => rfl) sc__law_wire_of rd__law_wire_of rfl (fun z => by cases z)
  have w2 : Wd PW w K mg base (tabL w K tf) cf2 6 := ((((((w1.add (by decide) k_is_source).add (Nat.le_refl _) k_action_of).add (Nat.le_refl _) k__law_some).add (Nat.le_refl _) k__law_is_from).add (Nat.le_refl _) k__law_lines).add (Nat.le_refl _) k__law_wire_of)
  have k_is_printing : Kn PW w K mg base (tabL w K tf) 21 "is_printing" 3 Fis_printing := (kn_of (ps := ["board", "when", "value"]) w2 X G c (List.mem_of_getElem? (l := fn) (i := 3) (a := dfd "is_printing" (top 9)) rfl) (memg 5 rfl) (fun _ _ _ _ _ _ us hl => match us, hl with | [_, _, _], _ => rfl) sc_is_printing rd_is_printing rfl (fun z => by cases z)).mono (by decide)
  have k_wire_of : Kn PW w K mg base (tabL w K tf) 21 "wire_of" 1 Fwire_of := (kn_of (ps := ["line"]) w2 X G c (List.mem_of_getElem? (l := fn) (i := 9) (a := dfd "wire_of" (top 17)) rfl) (memg 11 rfl) (fun _ _ _ _ _ _ us hl => match us, hl with | [_], _ => rfl) sc_wire_of rd_wire_of rfl (fun z => by cases z)).mono (by decide)
  have k__law_is_act : Kn PW w K mg base (tabL w K tf) 21 "_law_is_act" 3 F_law_is_act := (kn_of (ps := ["frame", "when", "value"]) w2 X G c (List.mem_of_getElem? (l := fn) (i := 18) (a := dfd "_law_is_act" (top 27)) rfl) (memg 20 rfl) (fun _ _ _ _ _ _ us hl => match us, hl with | [_, _, _], _ => rfl) sc__law_is_act rd__law_is_act rfl (fun z => by cases z)).mono (by decide)
  have k__law_act : Kn PW w K mg base (tabL w K tf) 21 "_law_act" 3 F_law_act := (kn_of (ps := ["vat", "frame", "when"]) w2 X G c (List.mem_of_getElem? (l := fn) (i := 21) (a := dfd "_law_act" (top 30)) rfl) (memg 23 rfl) (fun _ _ _ _ _ _ us hl => match us, hl with | [_, _, _], _ => rfl) sc__law_act rd__law_act rfl (fun z => by cases z)).mono (by decide)
  have kr__law_odd : ∀ n, Kn PW w K mg base (tabL w K tf) (9 + 3 * n) "_law_odd" 2 (R__law_odd n) := by
    intro n
    induction n with
    | zero => exact kn_of (ps := ["vat", "depth"]) w2 X G c (List.mem_of_getElem? (l := fn) (i := 24) (a := dfd "_law_odd" (top 33)) rfl) (memg 26 rfl) (fun _ _ _ _ _ _ us hl => match us, hl with | [_, _], _ => rfl) sc__law_odd rd0__law_odd rfl (fun z => by cases z)
    | succ n ih => exact kn_of (ps := ["vat", "depth"]) (w2.add (by omega) ih) X G c (List.mem_of_getElem? (l := fn) (i := 24) (a := dfd "_law_odd" (top 33)) rfl) (memg 26 rfl) (fun _ _ _ _ _ _ us hl => match us, hl with | [_, _], _ => rfl) sc__law_odd (rd__law_odd _) rfl (fun z => by cases z)
  have k__law_odd : Kn PW w K mg base (tabL w K tf) 21 "_law_odd" 2 F_law_odd := (kr__law_odd 4).mono (by decide)
  have k__law_spoilt : Kn PW w K mg base (tabL w K tf) 21 "_law_spoilt" 2 F_law_spoilt := (kn_of (ps := ["vat", "text"]) w2 X G c (List.mem_of_getElem? (l := fn) (i := 31) (a := dfd "_law_spoilt" (top 40)) rfl) (memg 33 rfl) (fun _ _ _ _ _ _ us hl => match us, hl with | [_, _], _ => rfl) sc__law_spoilt rd__law_spoilt rfl (fun z => by cases z)).mono (by decide)
  have w3 : Wd PW w K mg base (tabL w K tf) cf3 21 := ((((((w2.add (by decide) k_is_printing).add (Nat.le_refl _) k_wire_of).add (Nat.le_refl _) k__law_is_act).add (Nat.le_refl _) k__law_act).add (Nat.le_refl _) k__law_odd).add (Nat.le_refl _) k__law_spoilt)
  have k_is_action : Kn PW w K mg base (tabL w K tf) 24 "is_action" 3 Fis_action := kn_of (ps := ["board", "when", "value"]) w3 X G c (List.mem_of_getElem? (l := fn) (i := 4) (a := dfd "is_action" (top 10)) rfl) (memg 6 rfl) (fun _ _ _ _ _ _ us hl => match us, hl with | [_, _, _], _ => rfl) sc_is_action rd_is_action rfl (fun z => by cases z)
  have k__law_is_wire : Kn PW w K mg base (tabL w K tf) 24 "_law_is_wire" 2 F_law_is_wire := kn_of (ps := ["frame", "value"]) w3 X G c (List.mem_of_getElem? (l := fn) (i := 19) (a := dfd "_law_is_wire" (top 28)) rfl) (memg 21 rfl) (fun _ _ _ _ _ _ us hl => match us, hl with | [_, _], _ => rfl) sc__law_is_wire rd__law_is_wire rfl (fun z => by cases z)
  have k__law_wire : Kn PW w K mg base (tabL w K tf) 24 "_law_wire" 2 F_law_wire := kn_of (ps := ["vat", "frame"]) w3 X G c (List.mem_of_getElem? (l := fn) (i := 22) (a := dfd "_law_wire" (top 31)) rfl) (memg 24 rfl) (fun _ _ _ _ _ _ us hl => match us, hl with | [_, _], _ => rfl) sc__law_wire rd__law_wire rfl (fun z => by cases z)
  have w4 : Wd PW w K mg base (tabL w K tf) cf4 24 := (((w3.add (by decide) k_is_action).add (Nat.le_refl _) k__law_is_wire).add (Nat.le_refl _) k__law_wire)
  have k_is_wire : Kn PW w K mg base (tabL w K tf) 27 "is_wire" 2 Fis_wire := kn_of (ps := ["board", "value"]) w4 X G c (List.mem_of_getElem? (l := fn) (i := 5) (a := dfd "is_wire" (top 11)) rfl) (memg 7 rfl) (fun _ _ _ _ _ _ us hl => match us, hl with | [_, _], _ => rfl) sc_is_wire rd_is_wire rfl (fun z => by cases z)
  have k__law_is_board : Kn PW w K mg base (tabL w K tf) 27 "_law_is_board" 1 F_law_is_board := kn_of (ps := ["value"]) w4 X G c (List.mem_of_getElem? (l := fn) (i := 20) (a := dfd "_law_is_board" (top 29)) rfl) (memg 22 rfl) (fun _ _ _ _ _ _ us hl => match us, hl with | [_], _ => rfl) sc__law_is_board rd__law_is_board rfl (fun z => by cases z)
  have k__law_board : Kn PW w K mg base (tabL w K tf) 27 "_law_board" 2 F_law_board := kn_of (ps := ["vat", "most"]) w4 X G c (List.mem_of_getElem? (l := fn) (i := 23) (a := dfd "_law_board" (top 32)) rfl) (memg 25 rfl) (fun _ _ _ _ _ _ us hl => match us, hl with | [_, _], _ => rfl) sc__law_board rd__law_board rfl (fun z => by cases z)
  have w5 : Wd PW w K mg base (tabL w K tf) cf5 27 := (((w4.add (by decide) k_is_wire).add (Nat.le_refl _) k__law_is_board).add (Nat.le_refl _) k__law_board)
  have k_is_board : Kn PW w K mg base (tabL w K tf) 30 "is_board" 1 Fis_board := kn_of (ps := ["value"]) w5 X G c (List.mem_of_getElem? (l := fn) (i := 6) (a := dfd "is_board" (top 12)) rfl) (memg 8 rfl) (fun _ _ _ _ _ _ us hl => match us, hl with | [_], _ => rfl) sc_is_board rd_is_board rfl (fun z => by cases z)
  have k__law_due : Kn PW w K mg base (tabL w K tf) 30 "_law_due" 1 F_law_due__2 := kn_of (ps := ["value"]) w5 X G c (List.mem_of_getElem? (l := fn) (i := 30) (a := dfd "_law_due" (top 39)) rfl) (memg 32 rfl) (fun _ _ _ _ _ _ us hl => match us, hl with | [_], _ => rfl) sc__law_due rd__law_due rfl (fun z => by cases z)
  have w6 : Wd PW w K mg base (tabL w K tf) cf6 30 := ((w5.add (by decide) k_is_board).add (Nat.le_refl _) k__law_due)
  have k_head_of : Kn PW w K mg base (tabL w K tf) 33 "head_of" 1 Fhead_of := kn_of (ps := ["line"]) w6 X G c (List.mem_of_getElem? (l := fn) (i := 10) (a := dfd "head_of" (top 18)) rfl) (memg 12 rfl) (fun _ _ _ _ _ _ us hl => match us, hl with | [_], _ => rfl) sc_head_of rd_head_of rfl (fun z => by cases z)
  have w7 : Wd PW w K mg base (tabL w K tf) cf7 33 := (w6.add (by decide) k_head_of)
  have k_read_board : Kn PW w K mg base (tabL w K tf) 36 "read_board" 1 Fread_board := kn_of (ps := ["value"]) w7 X G c (List.mem_of_getElem? (l := fn) (i := 11) (a := dfd "read_board" (top 19)) rfl) (memg 13 rfl) (fun _ _ _ _ _ _ us hl => match us, hl with | [_], _ => rfl) sc_read_board rd_read_board rfl (fun z => by cases z)
  have w8 : Wd PW w K mg base (tabL w K tf) cf8 36 := (w7.add (by decide) k_read_board)
  have k__law_read : Kn PW w K mg base (tabL w K tf) 39 "_law_read" 1 F_law_read := (kn_read (v0 := "value") (v1 := "e") X G c (k_read_board.mono (by decide) : Kn PW w K mg base (tabL w K tf) 36 "read_board" 1 Fread_board) (List.mem_of_getElem? (l := fn) (i := 27) (a := dfd "_law_read" (top 36)) rfl) (memg 29 rfl) (memg 1 rfl) xb_InvalidText (fun _ _ _ _ _ _ us hl => match us, hl with | [_], _ => rfl) (by kernel_rfl) (by kernel_rfl)).mono (by decide)
  have w9 : Wd PW w K mg base (tabL w K tf) cf9 39 := (w8.add (by decide) k__law_read)
  exact kn_law w9 c FD sc_law rd_law rfl (fun z => by cases z)
theorem hold (hF : ∀ ns : List Int, ns.length ≤ 63 → (∀ z ∈ ns, Builtin.Int.intBits z ≤ 1048576) → ∃ μ, Flaw [.scr ns] [] = some (.ok (.bl true), μ)) : PySem.Challenge.rw_allcards_k17_texts_spoilt.Holds := by
  open PySem.W PySem.Calls in
  w_on; o_law
  refine HandSHeadRun.head_any (r := PySem.W.OpenLaw.row PySem.Challenge.rw_allcards_k17_texts_spoilt) (q := PySem.W.view (PySem.W.OpenLaw.row PySem.Challenge.rw_allcards_k17_texts_spoilt).prog [41]) (H := hk) (ob := ob) (M := 6000) (loose := loose) (d := HandSHeadRun.topDef (PySem.W.OpenLaw.row PySem.Challenge.rw_allcards_k17_texts_spoilt).prog 41) (kwd := []) ob_eq
    (by kernel_rfl) (fun s => by kernel_rfl) run (by kernel_rfl) (by kernel_rfl) (by kernel_rfl) (by rfl) (by first | assumption | decide +kernel) (by decide +kernel) ⟨rfl, rfl, rfl, rfl, rfl, by decide +kernel⟩ ?hw ?hc
  case hw => w_witness2
  case hc =>
    exact walk_Y (dn := 5) (l := PySem.Challenge.rw_allcards_k17_texts_spoilt) (n := 63) (k := 42) (x := "script") (lx := "law") (tf := tf) (ex := ex) (fa := fa) (fn := fn) (F := Flaw) rfl (by decide) (by kernel_rfl) (by kernel_rfl) ⟨rfl, by decide, by decide⟩ (fun w K h mg X G c hex => facts X G c hex) hF
end K17
set_option Elab.async false
set_option linter.all false
set_option maxRecDepth 100000
set_option maxHeartbeats 4000000
/-! K7g: law k17: the loop and the end. -/
namespace K17
open PySem L2 Mi Pg Ev Dr Mm Kv K7
def ValOk (d : D) : Prop := (∃ z, d = .str z ∧ PyData.strOk z = true ∧ z.length ≤ 200000) ∨ ∀ μ, Bi.do .isi μ [d, .ty "str"] = some (.bl false)
section
variable {μ : List Mo}
theorem read_txt {z : Str} (hz : PyData.strOk z = true) (hl : z.length ≤ 200000) : F_law_read [.str z] μ = some (.ok (readD z), μ) := by
  have h := pread_ok (μ := μ) hz hl
  unfold F_law_read readS
  rw [h]
  cases readD z <;> first | rfl | exact if_pos rfl
theorem both {d : D} (h : ValOk d) : ∃ r, F_law_read [d] μ = some (.ok r, μ) ∧ F_law_due__2 [d] μ = some (.ok r, μ) ∧ eqD μ r r = some true := by
  rcases h with ⟨z, rfl, hz, hl⟩ | h
  · exact ⟨readD z, read_txt hz hl, due_ok hz hl, eq_same (readD_ok hz hl)⟩
  · refine ⟨.int 0, ?_, due_no (h μ), eq_same rfl⟩
    have h := pread_no (h μ)
    unfold F_law_read readS
    rw [h]
    exact if_pos rfl
theorem val_tx {z : Str} {L : Nat} (h : Tx L z) (hL : L ≤ 200000) : ValOk (.str z) := .inl ⟨z, rfl, h.sok, by have := h.ln; omega⟩
theorem val_v {d : D} {n : Nat} (h : vN n 45 d = true) : ValOk d := by
  cases d with
  | str z =>
    have h : (z.cps.toList.all (fun c => decide (c < 128)) && decide (z.length ≤ 45)) = true := by cases n <;> simpa [vN] using h
    rw [Bool.and_eq_true] at h
    exact .inl ⟨z, rfl, asc_ok h.1, by have := of_decide_eq_true h.2; omega⟩
  | non => exact .inr fun μ => is_n_str
  | bl b => exact .inr fun μ => is_b_str
  | int i => exact .inr fun μ => is_i_str
  | tup xs => exact .inr fun μ => is_t_str
  | lst xs => exact .inr fun μ => is_l_str
  | _ => cases n <;> simp [vN] at h
def bodyL : Ss := match B_law with
  | .cons (.for_ _ _ b) _ => b
  | _ => .nil
def bodyI : Ss := match bodyL with
  | .cons _ (.cons _ (.cons _ (.cons (.for_ _ _ b) _))) => b
  | _ => .nil
def bodyC : Ss := match bodyL with
  | .cons _ (.cons _ (.cons _ (.cons _ (.cons _ (.cons (.for_ _ _ b) _))))) => b
  | _ => .nil
theorem sp_loop {n : Nat} {s0 s1 c6 c7 c8 c9 : Sl} : ∀ (xs : List D) (L : Nat) (z : Str) (vs : List D) (c5 : Sl) (μ : List Mo), Vat μ n → Tx L z → (L + 60) * 2 ^ xs.length ≤ 100000 → vs.length + xs.length ≤ 100 → (∀ v ∈ vs, ValOk v) →
    ∃ z' vs' c5' μ', forL (.name 5) (exs bodyI) xs [s0, s1, .d (.obj n), .d (.str z), .lin vs, c5, c6, c7, c8, c9] μ = some (.nx, [s0, s1, .d (.obj n), .d (.str z'), .lin vs', c5', c6, c7, c8, c9], μ') ∧ (∀ v ∈ vs', ValOk v)
  | [], L, z, vs, c5, μ, _, _, _, _, hv => ⟨z, vs, c5, μ, by simp [forL], hv⟩
  | x :: xs, L, z, vs, c5, μ, v, h, hL, hn, hv => by
    have hp : 1 ≤ 2 ^ xs.length := Nat.one_le_two_pow
    have hL2 : (2 * L + 60 + 60) * 2 ^ xs.length ≤ 100000 := by
      rw [List.length_cons, Nat.pow_succ] at hL
      have e : (2 * L + 60 + 60) * 2 ^ xs.length = (L + 60) * (2 ^ xs.length * 2) := by
        rw [show 2 * L + 60 + 60 = (L + 60) * 2 by omega, Nat.mul_assoc, Nat.mul_comm 2]
      rw [e]; exact hL
    have hL3 : 2 * L + 60 + 60 ≤ 100000 := Nat.le_trans (Nat.le_mul_of_pos_right _ (by omega)) hL2
    obtain ⟨d, μ1, e1, d1, z1, rfl, h1⟩ := spoilt_spec v h (by omega)
    obtain ⟨z', vs', c5', μ', e, hv'⟩ := sp_loop (s0 := s0) (s1 := s1) (c6 := c6) (c7 := c7) (c8 := c8) (c9 := c9) xs (2 * L + 60) z1 (vs ++ [.str z1]) (.d x) μ1 d1.vat h1 hL2 (by simp at hn ⊢; omega) (fun w hw => by
      rcases List.mem_append.mp hw with q | q
      · exact hv w q
      · rw [List.mem_singleton.mp q]; exact val_tx h1 (by omega))
    refine ⟨z', vs', c5', μ', ?_, hv'⟩
    rw [← e]
    have hz : vs.length < 16777216 := by simp at hn; omega
    simp [forL, bodyI, bodyL, B_law, e1, szL, hz]
theorem cmp_loop {s0 s1 s2 s3 s4 s5 c7 c8 c9 : Sl} : ∀ (xs : List D) (c6 : Sl), (∀ v ∈ xs, ValOk v) →
    ∃ c6', forL (.name 6) (exs bodyC) xs [s0, s1, s2, s3, s4, s5, c6, c7, c8, c9] μ = some (.nx, [s0, s1, s2, s3, s4, s5, c6', c7, c8, c9], μ)
  | [], c6, _ => ⟨c6, by simp [forL]⟩
  | x :: xs, c6, h => by
    obtain ⟨r, h1, h2, h3⟩ := both (μ := μ) (h x List.mem_cons_self)
    obtain ⟨c6', e⟩ := cmp_loop xs (.d x) fun v hv => h v (List.mem_cons_of_mem _ hv)
    refine ⟨c6', ?_⟩
    rw [← e]
    simp [forL, bodyC, bodyL, B_law, h1, h2, h3]
theorem upper_do {z : Str} (h : z.length ≤ 5000) : Bi.do .upper μ [.str z] = some (.str (Txt.upper z)) := by
  show (if z.length ≤ 5592405 then some (D.str (Txt.upper z)) else none) = _
  rw [if_pos (by omega)]
/-- the signs of a board's text are plain -/
theorem dg_128 {i : Nat} (h : i ≤ 3) : ∀ c ∈ TL.tl (dg i), c < 128 := by
  have : i = 0 ∨ i = 1 ∨ i = 2 ∨ i = 3 := by omega
  rcases this with rfl | rfl | rfl | rfl <;> decide +kernel
theorem join_128 {y : Str} (hy : ∀ c ∈ TL.tl y, c < 128) {ws : List Str} (h : ∀ w ∈ ws, ∀ c ∈ TL.tl w, c < 128) : ∀ c ∈ TL.tl (Str.join y ws), c < 128 := fun c hc => by
  apply Decidable.byContradiction
  intro hlt
  exact sjoin_mem y c (fun q => hlt (hy c q)) ws (fun w hw q => hlt (h w hw c q)) hc
theorem src_128 {s : Src} {w : When} {nc : Nat} (h : s.ok nc w) (hc : nc ≤ 3) : ∀ c ∈ TL.tl s.t, c < 128 := by
  cases s with
  | x => decide +kernel
  | y => decide +kernel
  | c i => exact dg_128 (by have : i < nc := h; omega)
theorem wire_128 {a : Wire} {nc ns : Nat} (h : a.ok nc ns) (hc : nc ≤ 3) (hs : ns ≤ 2) : ∀ c ∈ TL.tl a.t, c < 128 := by
  unfold Wire.t
  rw [TL.join_eq]
  refine join_128 (by decide +kernel) fun w hw => ?_
  simp only [Wire.ws, List.mem_append, List.mem_singleton] at hw
  obtain ⟨h1, h2⟩ := h
  rcases hw with (rfl | hw) | hw
  · cases a.when <;> decide +kernel
  · cases e : a.sw with
    | none => rw [e] at hw; cases hw
    | some p =>
      obtain ⟨i, b⟩ := p
      rw [e] at hw
      have := h1 i b e
      simp only [swW, List.mem_cons, List.not_mem_nil, or_false] at hw
      rcases hw with rfl | rfl
      · cases b <;> decide +kernel
      · exact dg_128 (by omega)
  · cases e : a.act with
    | add l s i =>
      rw [e] at hw h2
      simp only [Act.ws, List.mem_cons, List.not_mem_nil, or_false] at hw
      rcases hw with rfl | rfl | rfl
      · cases l <;> decide +kernel
      · exact src_128 h2.1 hc
      · exact dg_128 (by have := h2.2; omega)
    | clear i =>
      rw [e] at hw h2
      simp only [Act.ws, List.mem_cons, List.not_mem_nil, or_false] at hw
      have h2 : i < nc := h2
      rcases hw with rfl | rfl
      · decide +kernel
      · exact dg_128 (by omega)
    | set i b =>
      rw [e] at hw h2
      simp only [Act.ws, List.mem_cons, List.not_mem_nil, or_false] at hw
      have h2 : i < ns := h2
      rcases hw with rfl | rfl
      · cases b <;> decide +kernel
      · exact dg_128 (by omega)
    | print ss =>
      rw [e] at hw h2
      simp only [Act.ws, List.mem_cons] at hw
      rcases hw with rfl | hw
      · decide +kernel
      · obtain ⟨s, hs', rfl⟩ := List.mem_map.mp hw
        exact src_128 (h2.2.2 s hs') hc
theorem board_tx {b : Board} (h : b.ok) : Tx 450 b.t := by
  refine ⟨board_len h, ?_⟩
  unfold Board.t
  rw [TL.join_eq]
  refine join_128 (by decide +kernel) fun w hw => ?_
  simp only [Board.ls, List.mem_cons] at hw
  rcases hw with rfl | hw
  · unfold Board.hd
    intro c hc
    rw [TL.tl_append, TL.tl_append, TL.tl_append] at hc
    simp only [List.mem_append] at hc
    rcases hc with ((q | q) | q) | q
    · exact (show ∀ c ∈ TL.tl ("board " : Str), c < 128 by decide +kernel) c q
    · exact dg_128 h.c c q
    · exact (show ∀ c ∈ TL.tl (" " : Str), c < 128 by decide +kernel) c q
    · exact dg_128 (by have := h.s; omega) c q
  · obtain ⟨a, ha, rfl⟩ := List.mem_map.mp hw
    exact wire_128 (h.w a ha) h.c h.s
theorem rg5 (n : Nat) (h : n ≤ 95 := by simp) : n + (rgD 0 5).length ≤ 100 := by
  have q : (rgD 0 5).length = 5 := by decide +kernel
  omega
theorem loop_ok {ns : List Int} : ∀ (xs : List Nat) (a b c d e f : Sl) (μ : List Mo), (∀ x ∈ xs, x ≤ 1000) →
    ∃ a' b' c' d' e' f' μ', forL (.name 1) (exs bodyL) (xs.map fun (i : Nat) => D.int i) [.d (.scr ns), a, b, c, d, e, f, .un, .un, .un] μ = some (.nx, [.d (.scr ns), a', b', c', d', e', f', .un, .un, .un], μ')
  | [], a, b, c, d, e, f, μ, _ => ⟨a, b, c, d, e, f, μ, by simp [forL]⟩
  | x :: xs, a, b, c, d, e, f, μ, h => by
    obtain ⟨μ1, e1, v⟩ := vat_spec (μ := μ) (ns := ns) (k := x) (h x List.mem_cons_self)
    obtain ⟨bd, μ2, e2, d2, B, rfl, hc, hs, hl, hw⟩ := board_spec (n := μ.length) (μ := μ1) (k := 8) v.vat (by omega)
    have B_ok : B.ok := ⟨by omega, by omega, hl, hw⟩
    have hT := board_tx B_ok
    obtain ⟨od, μ3, e3, d3, ho⟩ := oddF_spec (dep := 2) d2.vat (by omega)
    have n1 := @add_str _ _ _ _ hT (show Tx 1 "\n" from ⟨by decide +kernel, by decide +kernel⟩) (by omega)
    have n2 := @add_str _ _ _ _ (show Tx 1 " " from ⟨by decide +kernel, by decide +kernel⟩) hT (by omega)
    have n3 := fun μ => upper_do (μ := μ) (z := B.t) (by have := hT.ln; omega)
    obtain ⟨z', vs', c5', μ4, e4, hv⟩ := sp_loop (n := μ.length) (s0 := .d (.scr ns)) (s1 := .d (.int x)) (c6 := f) (c7 := .un) (c8 := .un) (c9 := .un) (rgD 0 5) 450 B.t [.str B.t, .str (B.t ++ "\n"), .str (" " ++ B.t), od, .lst [.str B.t], .str (Txt.upper B.t)] e μ3 d3.vat hT (by decide +kernel) (rg5 _) (fun w hw => by
      simp only [List.mem_cons, List.not_mem_nil, or_false] at hw
      rcases hw with rfl | rfl | rfl | rfl | rfl | rfl
      · exact val_tx hT (by omega)
      · exact val_tx (hT.app (show Tx 1 "\n" from ⟨by decide +kernel, by decide +kernel⟩)) (by omega)
      · exact val_tx ((show Tx 1 " " from ⟨by decide +kernel, by decide +kernel⟩ : Tx 1 (" " : Str)).app hT) (by omega)
      · exact val_v ho
      · exact .inr fun μ => is_l_str
      · exact val_tx hT.upper (by omega))
    obtain ⟨c6', e5⟩ := cmp_loop (μ := μ4) (s0 := .d (.scr ns)) (s1 := .d (.int x)) (s2 := .d (.obj μ.length)) (s3 := .d (.str z')) (s4 := .d (.lst vs')) (s5 := c5') (c7 := .un) (c8 := .un) (c9 := .un) vs' f hv
    obtain ⟨a', b', c', d', e', f', μ', ih⟩ := loop_ok (ns := ns) xs (.d (.int x)) (.d (.obj μ.length)) (.d (.str z')) (.d (.lst vs')) c5' c6' μ4 fun y hy => h y (List.mem_cons_of_mem _ hy)
    refine ⟨a', b', c', d', e', f', μ', ?_⟩
    rw [← ih]
    have hok : rgOk 0 5 = true := by decide +kernel
    simp [bodyI, bodyL, B_law] at e4
    simp [bodyC, bodyL, B_law] at e5
    simp at e2 e3
    simp [forL, B_law, bodyL, e1, e2, llines_ok B_ok, lines_join B_ok, n1, n2, n3, e3, szL, x_kfor, hok, e4, e5]
end
end K17
set_option Elab.async false
set_option linter.all false
set_option maxRecDepth 100000
set_option maxHeartbeats 4000000
/-! K7h: law k17: the texts at the end. -/
namespace K17
open PySem L2 Mi Pg Ev Dr Mm Kv K7
def M8 : Str := "\ncard print x\ncard print x\ncard print x\ncard print x\ncard print x\ncard print x\ncard print x\ncard print x"
def M9 : Str := "\ncard print x\ncard print x\ncard print x\ncard print x\ncard print x\ncard print x\ncard print x\ncard print x\ncard print x"
def M10 : Str := "\ncard print x\ncard print x\ncard print x\ncard print x\ncard print x\ncard print x\ncard print x\ncard print x\ncard print x\ncard print x"
def R1 : Str := "board 0 0" ++ M9
def R2 : Str := "board 0 0" ++ M8
def R3 : Str := R2 ++ "\ncard"
def R4 : Str := "board 0 0" ++ M10
def R5 : Str := "board 1 0" ++ "\ncard print x"
def R6 : Str := R5 ++ "\nminor add x 0"
def rowsD : List D := [.tup [.str "", .int 1], .tup [.str "board 1", .int 1], .tup [.str "board 4 0", .int 1], .tup [.str "board 0 3", .int 1], .tup [.str "board 01 0", .int 1], .tup [.str "board 0 0\n", .int 2], .tup [.str R1, .int 10], .tup [.str R3, .int 10], .tup [.str R4, .int 10], .tup [.str "board 1 0\ncard add x 1", .int 2], .tup [.str R6, .int 3], .tup [.str "board 1 1\ncard if 1 on 0", .int 2], .tup [.str "board 0 0\ncard print", .int 2], .tup [.str "board 0 0\ncard print x x x x", .int 2], .tup [.str "board 1 0\ncard clear x", .int 2]]
def rowB : D → Bool
  | .tup [.str z, .int n] => PyData.strOk z && decide (z.length ≤ 200000) && (match readD z with
    | .int m => decide (m = n)
    | _ => false)
  | _ => false
theorem rows_B : ∀ x ∈ rowsD, rowB x = true := by
  have h : rowsD.all rowB = true := by decide +kernel
  exact List.all_eq_true.mp h
section
variable {μ : List Mo}
theorem row_inv {x : D} (h : rowB x = true) : ∃ z n, x = .tup [.str z, .int n] ∧ ∀ μ, F_law_read [.str z] μ = some (.ok (.int n), μ) := by
  unfold rowB at h
  split at h
  · rename_i z n
    simp only [Bool.and_eq_true, decide_eq_true_eq] at h
    obtain ⟨⟨h1, h2⟩, h3⟩ := h
    refine ⟨z, n, rfl, fun μ => ?_⟩
    have := read_txt (μ := μ) h1 h2
    cases e : readD z <;> rw [e] at h3 <;> simp at h3
    subst h3
    rw [e] at this
    exact this
  · cases h
theorem m9 : mulD (.str "\ncard print x") (.int 9) = some (.str M9) := by kernel_rfl
theorem m8 : mulD (.str "\ncard print x") (.int 8) = some (.str M8) := by kernel_rfl
theorem m10 : mulD (.str "\ncard print x") (.int 10) = some (.str M10) := by kernel_rfl
theorem ad1 : addD μ (.str "board 0 0") (.str M9) = some (.str R1) := by kernel_rfl
theorem ad2 : addD μ (.str "board 0 0") (.str M8) = some (.str R2) := by kernel_rfl
theorem ad3 : addD μ (.str R2) (.str "\ncard") = some (.str R3) := by kernel_rfl
theorem ad4 : addD μ (.str "board 0 0") (.str M10) = some (.str R4) := by kernel_rfl
theorem ad5 : addD μ (.str "board 1 0") (.str "\ncard print x") = some (.str R5) := by kernel_rfl
theorem ad6 : addD μ (.str R5) (.str "\nminor add x 0") = some (.str R6) := by kernel_rfl
theorem hF (ns : List Int) (h : ns.length ≤ 63) : ∃ μ, Flaw [.scr ns] [] = some (.ok (.bl true), μ) := by
  obtain ⟨m, hm, hm2⟩ : ∃ m : Nat, (if (if (ns.length : Int) < 14 then (ns.length : Int) else 14) > 6 then (if (ns.length : Int) < 14 then (ns.length : Int) else 14) else 6) = (m : Int) ∧ m ≤ 14 := by
    refine ⟨(if (if (ns.length : Int) < 14 then (ns.length : Int) else 14) > 6 then (if (ns.length : Int) < 14 then (ns.length : Int) else 14) else 6).toNat, ?_, ?_⟩ <;> (split <;> split) <;> omega
  obtain ⟨a, b, c, d, e, f, μ, q⟩ := loop_ok (ns := ns) (List.range m) .un .un .un .un .un .un [] (fun x hx => by have := List.mem_range.mp hx; omega)
  have hrg : rgD 0 (m : Int) = (List.range m).map fun (i : Nat) => D.int i := by unfold rgD; simp
  have hok : rgOk 0 (m : Int) = true := by unfold rgOk; simp; omega
  have hc := comp_none (μ := μ) (tg := .pair (.name 3) (.name 9)) (keep := ev (.op .ne (.call F_law_read (.cons (.var 3) .nil)) (.var 9))) (elt := ev (.var 3)) (δ := [.d (.scr ns), a, b, .un, d, e, f, .d (.str "\ncard print x"), .d (.lst rowsD), .un]) rowsD (fun x hx => by
    obtain ⟨z, n, rfl, hr⟩ := row_inv (rows_B x hx)
    refine ⟨_, rfl, ?_⟩
    have hq := eq_same (μ := μ) (a := .int n) rfl
    simp [hr, hq])
  refine ⟨μ, ?_⟩
  simp [bodyL, B_law] at q
  simp [rowsD] at hc
  simp [Flaw, B_law, go, hm, hrg, hok, x_kfor, q, m9, m8, m10, ad1, ad2, ad3, ad4, ad5, ad6, szL, kcomp, wipeS, hc, show eqD μ (.lst []) (.lst []) = some true from eq_same rfl]
end
end K17
theorem PySem.Challenge.cw_allcards_k17_texts_spoilt_holds : PySem.Challenge.rw_allcards_k17_texts_spoilt.Holds :=
  K17.hold fun ns h _ => K17.hF ns h
