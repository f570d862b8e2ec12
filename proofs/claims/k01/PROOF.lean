import PyProof.Rows.All
import PyProof.Rows.IntBool
import PyProof.CallStr
import HandS.ForMost
import HandS.ExcCtx
import HandS.Deep
import HandS.TupAny
import HandS.TupLe
import HandS.TupMul
import HandS.Walk
import HandS.Zip
import HandS.Conv
import HandS.Style
import HandS.IsInst
import HandS.Flow
import HandS.Wide
import HandS.CallSlots
import HandS.Lambda
import HandS.Defaults
import HandS.RaiseMore
import HandS.Text
import HandS.Iter
import KE.GoesEnum
import HandS.Small
import HandS.HotCalls
import PyProof.ZipIter
import PyProof.Rows.TupIter
import HandS.Comp
import HandS.ExcIs
import HandS.SuiteRaise
import HandS.HeadHook4
import HandS.EndTab
import HandS.Head2
import HandS.Words
import PyProof.Rows.StrCase
import PyProof.Ascii
import PyProof.FitsInt
import PyProof.Rows.ReprOcc
import PySem.Challenge.RW_allcards_k01_boards_decks_and_patterns_r
set_option Elab.async false
set_option linter.all false
set_option maxRecDepth 100000
set_option maxHeartbeats 4000000
/-! Md: data, what stands for data on the heap, what stays. -/
namespace Mi
open PySem PySem.Spec PyProof.Rows L2
/-- data: immutable things by their contents (a list here is one that nobody changes any more), obj n: the n-th changeable thing -/
inductive D where
  | non | bl (b : Bool) | int (i : Int) | str (x : Str) | ty (n : String) | glo (x : Str)
  | tup (xs : List D) | lst (xs : List D) | obj (n : Nat) | scr (ns : List Int)
/-- what a changeable thing holds -/
inductive Mo where
  | lst (xs : List D)
  | dct (kvs : List (Str × D))
  | ins (c : Str) (fs : List (Str × D))
def KWT (K : PySem.W.Frag) (a : Addr) (xs : List V) : Prop :=
  ∃ (o : Obj) (its : Array Value) (n : Nat), K.lookup a = some o ∧ o.cls = .type "tuple" ∧ o.data = .seq its n ∧ its.size ≤ sizeLine ∧ Vals xs its.toList
def KWL (K : PySem.W.Frag) (a : Addr) (xs : List V) : Prop :=
  ∃ (o : Obj) (its : Array Value) (n : Nat), K.lookup a = some o ∧ o.cls = .type "list" ∧ o.dict = none ∧ o.data = .seq its n ∧ its.size ≤ sizeLine ∧ Vals xs its.toList
def TupAt (K : PySem.W.Frag) (H : Hp) (a : Addr) (xs : List V) : Prop := H a = some (.tup xs) ∨ KWT K a xs
theorem TupAt.sq {K : PySem.W.Frag} {H : Hp} {a : Addr} {xs : List V} (h : TupAt K H a xs) : SqT K H a xs := by
  rcases h with h | h
  · exact .inl (.inl h)
  · exact .inr h
def ScrAt (K : PySem.W.Frag) (ι Z : List Addr) (H : Hp) (a : Addr) (xs : List V) : Prop := (Rd H a (.lst xs) ∧ a ∉ ι ∧ a ∉ Z) ∨ KWL K a xs
theorem ScrAt.sq {K : PySem.W.Frag} {ι Z : List Addr} {H : Hp} {a : Addr} {xs : List V} (h : ScrAt K ι Z H a xs) : SqL K H a xs := by
  rcases h with h | h
  · exact .inl h.1
  · exact .inr h
mutual
def Rp (K : PySem.W.Frag) (mg : Str → Option Value) (ι Z : List Addr) (H : Hp) : D → V → Prop
  | .non, v => v = .non
  | .bl b, v => v = .bl b
  | .int i, v => v = .int i
  | .str x, v => v = .str x
  | .ty n, v => v = .ty n
  | .glo x, v => ∃ f, mg x = some (.ref f) ∧ v = .ref f
  | .tup ds, v => ∃ a vs, v = .ref a ∧ TupAt K H a vs ∧ Rps K mg ι Z H ds vs
  | .lst ds, v => ∃ a vs, v = .ref a ∧ (H a = some (.lst vs) ∧ a ∉ ι ∧ a ∉ Z) ∧ Rps K mg ι Z H ds vs
  | .obj n, v => ∃ a, v = .ref a ∧ ι[n]? = some a
  | .scr ns, v => ∃ a, v = .ref a ∧ ScrAt K ι Z H a (ns.map V.int)
def Rps (K : PySem.W.Frag) (mg : Str → Option Value) (ι Z : List Addr) (H : Hp) : List D → List V → Prop
  | [], vs => vs = []
  | d :: ds, vs => ∃ v vs', vs = v :: vs' ∧ Rp K mg ι Z H d v ∧ Rps K mg ι Z H ds vs'
end
/-- what stays: all but the things at ι and at Zf; tables may grow -/
structure Ext (ι Zf : List Addr) (H : Hp) (ι' : List Addr) (H' : Hp) : Prop where
  ids : ∃ l, ι' = ι ++ l ∧ ∀ p ∈ l, H p = none
  keep : ∀ a o, H a = some o → a ∉ ι → a ∉ Zf → (∀ ps, o ≠ .tbl ps) → H' a = some o
  there : ∀ a o, H a = some o → ∃ o', H' a = some o'
  tups : ∀ a xs, H a = some (.tup xs) → H' a = some (.tup xs)
theorem Ext.refl {ι Zf : List Addr} {H : Hp} : Ext ι Zf H ι H :=
  ⟨⟨[], by simp, by simp⟩, fun _ _ h _ _ _ => h, fun _ o h => ⟨o, h⟩, fun _ _ h => h⟩
theorem Ext.free {ι Zf : List Addr} {H : Hp} {ι' : List Addr} {H' : Hp} (e : Ext ι Zf H ι' H') {a : Addr} (h : H' a = none) : H a = none := by
  cases q : H a with
  | none => rfl
  | some o => obtain ⟨o', z⟩ := e.there a o q; rw [h] at z; cases z
theorem Ext.mono {ι Zf Zg : List Addr} {H : Hp} {ι' : List Addr} {H' : Hp} (e : Ext ι Zf H ι' H') (h : ∀ z ∈ Zf, z ∈ Zg) : Ext ι Zg H ι' H' :=
  ⟨e.ids, fun a o q h1 h2 => e.keep a o q h1 fun z => h2 (h a z), e.there, e.tups⟩
/-- the changed places of the second step: at Zf, or new -/
theorem Ext.trans {ι Zf Zg : List Addr} {H H1 H2 : Hp} {ι1 ι2 : List Addr} (e : Ext ι Zf H ι1 H1) (f : Ext ι1 Zg H1 ι2 H2) (hz : ∀ z ∈ Zg, z ∈ Zf ∨ H z = none) : Ext ι Zf H ι2 H2 := by
  obtain ⟨l1, rfl, h1⟩ := e.ids
  obtain ⟨l2, rfl, h2⟩ := f.ids
  refine ⟨⟨l1 ++ l2, by rw [List.append_assoc], fun p hp => ?_⟩, fun a o q n1 n2 nt => ?_, fun a o q => ?_, fun a xs q => f.tups a xs (e.tups a xs q)⟩
  · rcases List.mem_append.mp hp with z | z
    · exact h1 p z
    · exact e.free (h2 p z)
  · have k1 := e.keep a o q n1 n2 nt
    refine f.keep a o k1 (fun z => ?_) (fun z => ?_) nt
    · rcases List.mem_append.mp z with z | z
      · exact n1 z
      · rw [h1 a z] at q; cases q
    · rcases hz a z with z | z
      · exact n2 z
      · rw [z] at q; cases q
  · obtain ⟨o1, q1⟩ := e.there a o q
    exact f.there a o1 q1
theorem Ext.trans0 {ι Zf : List Addr} {H H1 H2 : Hp} {ι1 ι2 : List Addr} (e : Ext ι Zf H ι1 H1) (f : Ext ι1 [] H1 ι2 H2) : Ext ι Zf H ι2 H2 :=
  e.trans f (by simp)
section
variable {K : PySem.W.Frag} {mg : Str → Option Value} {ι Z Zf ι' Z' : List Addr} {H H' : Hp}
theorem TupAt.ext {a : Addr} {xs : List V} (h : TupAt K H a xs) (e : Ext ι Zf H ι' H') : TupAt K H' a xs := by
  rcases h with h | h
  · exact .inl (e.tups a xs h)
  · exact .inr h
theorem Ext.notin (e : Ext ι Zf H ι' H') {a : Addr} {o : HO} (q : H a = some o) (n : a ∉ ι) : a ∉ ι' := by
  obtain ⟨l, rfl, h⟩ := e.ids
  intro z
  rcases List.mem_append.mp z with z | z
  · exact n z
  · rw [h a z] at q; cases q
mutual
theorem Rp.ext (e : Ext ι Zf H ι' H') (hf : ∀ z ∈ Zf, z ∈ Z) (hz : ∀ z ∈ Z', z ∈ Z ∨ H z = none) : ∀ (d : D) (v : V), Rp K mg ι Z H d v → Rp K mg ι' Z' H' d v
  | .non, _, h => h
  | .bl _, _, h => h
  | .int _, _, h => h
  | .str _, _, h => h
  | .ty _, _, h => h
  | .glo _, _, h => h
  | .tup ds, v, h => by
    obtain ⟨a, vs, rfl, h1, h2⟩ := h
    exact ⟨a, vs, rfl, h1.ext e, Rps.ext e hf hz ds vs h2⟩
  | .lst ds, v, h => by
    obtain ⟨a, vs, rfl, ⟨h1, h2, h3⟩, h4⟩ := h
    refine ⟨a, vs, rfl, ⟨e.keep a _ h1 h2 (fun z => h3 (hf a z)) (fun _ z => nomatch z), e.notin h1 h2, fun z => ?_⟩, Rps.ext e hf hz ds vs h4⟩
    rcases hz a z with z | z
    · exact h3 z
    · rw [z] at h1; cases h1
  | .obj n, v, h => by
    obtain ⟨a, rfl, h1⟩ := h
    obtain ⟨l, rfl, _⟩ := e.ids
    refine ⟨a, rfl, ?_⟩
    rw [List.getElem?_append_left]
    · exact h1
    · exact (List.getElem?_eq_some_iff.mp h1).1
  | .scr ns, v, h => by
    obtain ⟨a, rfl, h1⟩ := h
    refine ⟨a, rfl, ?_⟩
    rcases h1 with ⟨h1, h2, h3⟩ | h1
    · obtain ⟨o, q, hr⟩ : ∃ o, H a = some o ∧ (H' a = some o → Rd H' a (.lst (ns.map V.int))) := by
        rcases h1 with h1 | ⟨o, h1⟩
        · exact ⟨_, h1, fun z => .inl z⟩
        · exact ⟨_, h1, fun z => .inr ⟨o, z⟩⟩
      refine .inl ⟨hr (e.keep a o q h2 (fun z => h3 (hf a z)) fun ps z => ?_), e.notin q h2, fun z => ?_⟩
      · subst z
        rcases h1 with h1 | ⟨_, h1⟩
        · rw [q] at h1; cases h1
        · rw [q] at h1; cases h1
      · rcases hz a z with z | z
        · exact h3 z
        · rw [z] at q; cases q
    · exact .inr h1
theorem Rps.ext (e : Ext ι Zf H ι' H') (hf : ∀ z ∈ Zf, z ∈ Z) (hz : ∀ z ∈ Z', z ∈ Z ∨ H z = none) : ∀ (ds : List D) (vs : List V), Rps K mg ι Z H ds vs → Rps K mg ι' Z' H' ds vs
  | [], _, h => h
  | d :: ds, vs, h => by
    obtain ⟨v, vs', rfl, h1, h2⟩ := h
    exact ⟨v, vs', rfl, Rp.ext e hf hz d v h1, Rps.ext e hf hz ds vs' h2⟩
end
theorem Rp.ext0 (e : Ext ι [] H ι' H') {d : D} {v : V} (h : Rp K mg ι Z H d v) : Rp K mg ι' Z H' d v := Rp.ext e (by simp) (fun _ z => .inl z) d v h
theorem Rps.ext0 (e : Ext ι [] H ι' H') {d : List D} {v : List V} (h : Rps K mg ι Z H d v) : Rps K mg ι' Z H' d v := Rps.ext e (by simp) (fun _ z => .inl z) d v h
theorem Rp.weak (hz : ∀ z ∈ Z', z ∈ Z) {d : D} {v : V} (h : Rp K mg ι Z H d v) : Rp K mg ι Z' H d v := Rp.ext (Zf := []) Ext.refl (by simp) (fun z q => .inl (hz z q)) d v h
theorem Rps.weak (hz : ∀ z ∈ Z', z ∈ Z) {d : List D} {v : List V} (h : Rps K mg ι Z H d v) : Rps K mg ι Z' H d v := Rps.ext (Zf := []) Ext.refl (by simp) (fun z q => .inl (hz z q)) d v h
theorem Rps.length : ∀ {ds : List D} {vs : List V}, Rps K mg ι Z H ds vs → ds.length = vs.length
  | [], _, h => by rw [h]; rfl
  | _ :: ds, _, h => by
    obtain ⟨v, vs', rfl, _, h2⟩ := h
    simp [Rps.length h2]
theorem Rps.get : ∀ {ds : List D} {vs : List V} {i : Nat} {d : D}, Rps K mg ι Z H ds vs → ds[i]? = some d → ∃ v, vs[i]? = some v ∧ Rp K mg ι Z H d v
  | [], _, _, _, _, e => by simp at e
  | _ :: ds, _, i, d, h, e => by
    obtain ⟨v, vs', rfl, h1, h2⟩ := h
    cases i with
    | zero => simp at e; subst e; exact ⟨v, by simp, h1⟩
    | succ i =>
      obtain ⟨w, e1, e2⟩ := Rps.get (i := i) h2 (by simpa using e)
      exact ⟨w, by simpa using e1, e2⟩
theorem Rps.append : ∀ {ds es : List D} {vs ws : List V}, Rps K mg ι Z H ds vs → Rps K mg ι Z H es ws → Rps K mg ι Z H (ds ++ es) (vs ++ ws)
  | [], _, _, _, h, g => by rw [h]; exact g
  | _ :: ds, _, _, _, h, g => by
    obtain ⟨v, vs', rfl, h1, h2⟩ := h
    exact ⟨v, vs' ++ _, rfl, h1, Rps.append h2 g⟩
theorem Rps.take : ∀ {ds : List D} {vs : List V} (n : Nat), Rps K mg ι Z H ds vs → Rps K mg ι Z H (ds.take n) (vs.take n)
  | [], _, _, h => by rw [h]; simp [Rps]
  | _ :: ds, _, 0, h => by simp [Rps]
  | _ :: ds, _, n + 1, h => by
    obtain ⟨v, vs', rfl, h1, h2⟩ := h
    exact ⟨v, vs'.take n, rfl, h1, Rps.take n h2⟩
theorem Rps.drop : ∀ {ds : List D} {vs : List V} (n : Nat), Rps K mg ι Z H ds vs → Rps K mg ι Z H (ds.drop n) (vs.drop n)
  | [], _, _, h => by rw [h]; simp [Rps]
  | _ :: ds, _, 0, h => h
  | _ :: ds, _, n + 1, h => by
    obtain ⟨v, vs', rfl, h1, h2⟩ := h
    exact Rps.drop n h2
theorem Rps.nil_iff {ds : List D} {vs : List V} (h : Rps K mg ι Z H ds vs) : vs = [] ↔ ds = [] := by
  have e := h.length
  constructor
  · intro z; subst z; exact List.length_eq_zero_iff.mp e
  · intro z; subst z; exact List.length_eq_zero_iff.mp e.symm
theorem Rps.one {d : D} {vs : List V} (h : Rps K mg ι Z H [d] vs) : ∃ v, vs = [v] ∧ Rp K mg ι Z H d v := by
  obtain ⟨v, vs', rfl, h1, h2⟩ := h
  rw [show vs' = [] from h2]
  exact ⟨v, rfl, h1⟩
theorem Rps.set : ∀ {ds : List D} {vs : List V} {d : D} {v : V} (i : Nat), Rps K mg ι Z H ds vs → Rp K mg ι Z H d v → Rps K mg ι Z H (ds.set i d) (vs.set i v)
  | [], _, _, _, _, h, _ => by rw [h]; simp [Rps]
  | _ :: ds, _, _, _, 0, h, g => by
    obtain ⟨v, vs', rfl, h1, h2⟩ := h
    exact ⟨_, vs', rfl, g, h2⟩
  | _ :: ds, _, _, _, i + 1, h, g => by
    obtain ⟨v, vs', rfl, h1, h2⟩ := h
    exact ⟨v, vs'.set i _, rfl, h1, Rps.set i h2 g⟩
theorem Rps.ints : ∀ (ns : List Int), Rps K mg ι Z H (ns.map D.int) (ns.map V.int)
  | [] => rfl
  | n :: ns => ⟨_, _, rfl, rfl, Rps.ints ns⟩
theorem Rps.ints_inv : ∀ {ns : List Int} {vs : List V}, Rps K mg ι Z H (ns.map D.int) vs → vs = ns.map V.int
  | [], _, h => h
  | n :: ns, _, h => by
    obtain ⟨v, vs', rfl, h1, h2⟩ := h
    rw [Rps.ints_inv h2, show v = V.int n from h1]; rfl
/-- what a changeable thing is on the heap -/
def RpM (K : PySem.W.Frag) (mg : Str → Option Value) (ι Z : List Addr) (H : Hp) (a : Addr) : Mo → Prop
  | .lst ds => ∃ vs, H a = some (.lst vs) ∧ Rps K mg ι Z H ds vs
  | .dct kvs => ∃ vs, H a = some (.dK ((kvs.map fun p => (Sum.inr p.1 : Key)).zip vs)) ∧ Rps K mg ι Z H (kvs.map (·.2)) vs
  | .ins c fs => ∃ C dx vs, mg c = some (.ref C) ∧ H a = some (.ins C dx ((fs.map (·.1)).zip vs)) ∧ Rps K mg ι Z H (fs.map (·.2)) vs
theorem RpM.at {a : Addr} {m : Mo} (h : RpM K mg ι Z H a m) : ∃ o, H a = some o ∧ (∀ xs, o ≠ .tup xs) ∧ (∀ ps, o ≠ .tbl ps) ∧ (∀ x, o ≠ .own x) := by
  cases m with
  | lst ds => obtain ⟨vs, h1, _⟩ := h; exact ⟨_, h1, (fun _ z => by cases z), (fun _ z => by cases z), (fun _ z => by cases z)⟩
  | dct kvs => obtain ⟨vs, h1, _⟩ := h; exact ⟨_, h1, (fun _ z => by cases z), (fun _ z => by cases z), (fun _ z => by cases z)⟩
  | ins c fs => obtain ⟨C, dx, vs, _, h1, _⟩ := h; exact ⟨_, h1, (fun _ z => by cases z), (fun _ z => by cases z), (fun _ z => by cases z)⟩
/-- the thing itself stood, the rest as e tells -/
theorem RpM.ext (e : Ext ι Zf H ι' H') (hf : ∀ z ∈ Zf, z ∈ Z) (hz : ∀ z ∈ Z', z ∈ Z ∨ H z = none) {a : Addr} {m : Mo} (ha : H' a = H a) (h : RpM K mg ι Z H a m) : RpM K mg ι' Z' H' a m := by
  cases m with
  | lst ds => obtain ⟨vs, h1, h2⟩ := h; exact ⟨vs, ha.trans h1, Rps.ext e hf hz _ _ h2⟩
  | dct kvs => obtain ⟨vs, h1, h2⟩ := h; exact ⟨vs, ha.trans h1, Rps.ext e hf hz _ _ h2⟩
  | ins c fs => obtain ⟨C, dx, vs, h0, h1, h2⟩ := h; exact ⟨C, dx, vs, h0, ha.trans h1, Rps.ext e hf hz _ _ h2⟩
end
/-- the changeable things, the lists that are held by one name alone (Z), the tables -/
structure RG (K : PySem.W.Frag) (mg : Str → Option Value) (T : List (Addr × Str)) (ι Z : List Addr) (H : Hp) (μ : List Mo) : Prop where
  nd : ι.Nodup
  len : ι.length = μ.length
  mem : ∀ (n : Nat) (m : Mo), μ[n]? = some m → ∃ a, ι[n]? = some a ∧ RpM K mg ι Z H a m
  zl : ∀ z ∈ Z, (∃ vs, H z = some (.lst vs)) ∧ z ∉ ι
  tabs : LamX.Tabs T H
end Mi
set_option Elab.async false
set_option linter.all false
set_option maxRecDepth 100000
set_option maxHeartbeats 4000000
/-! Mc: a small language over data: its terms, what they come to, and how they are read off the text. -/
namespace Mi
open PySem L2
/-! ### operators by values -/
mutual
def py0 : D → Option PyData
  | .non => some .none
  | .bl b => some (.bool b)
  | .int i => some (.int i)
  | .str x => some (.str x)
  | .tup xs => (py0s xs).map .tuple
  | .lst xs => (py0s xs).map .list
  | _ => none
def py0s : List D → Option (List PyData)
  | [] => some []
  | x :: xs => (py0 x).bind fun a => (py0s xs).map fun as => a :: as
end
/-- a changeable list, read -/
def see (μ : List Mo) : D → D
  | .obj n => (match μ[n]? with
    | some (.lst xs) => .lst xs
    | _ => .obj n)
  | d => d
def eqD (μ : List Mo) (a b : D) : Option Bool := (py0 (see μ a)).bind fun p => (py0 (see μ b)).bind fun q =>
  if (SeqAt.shaped p && SeqAt.shaped q) = true then some (PyData.eqv p q) else none
def inD (μ : List Mo) (a b : D) : Option Bool := match see μ b with
  | .str z => (match a with
    | .str x => some (!(Builtin.Str.occurrences z x 0 z.length 1).isEmpty)
    | _ => none)
  | .tup ds => (py0 (see μ a)).bind fun p => (py0s ds).bind fun qs => if (SeqAt.shaped p && SeqAt.shaped (.tuple qs)) = true then some (qs.any fun z => PyData.eqv z p) else none
  | .lst ds => (py0 (see μ a)).bind fun p => (py0s ds).bind fun qs => if (SeqAt.shaped p && SeqAt.shaped (.list qs)) = true then some (qs.any fun z => PyData.eqv z p) else none
  | _ => none
def intsOf : List D → Option (List Int)
  | [] => some []
  | .int i :: ds => (intsOf ds).map fun ns => i :: ns
  | _ :: _ => none
inductive Cm | lt | le | gt | ge
def Cm.int : Cm → Int → Int → Bool
  | .lt, i, j => decide (i < j)
  | .le, i, j => decide (i ≤ j)
  | .gt, i, j => decide (j < i)
  | .ge, i, j => decide (j ≤ i)
/-- tuples of ints, from the first pair that differs on -/
def lexC (c : Cm) : List Int → List Int → Bool
  | [], [] => c.int 0 0
  | [], _ :: _ => c.int 0 1
  | _ :: _, [] => c.int 1 0
  | x :: xs, y :: ys => if x = y then lexC c xs ys else c.int x y
def cmD (c : Cm) (a b : D) : Option Bool := match a, b with
  | .int i, .int j => some (c.int i j)
  | .tup xs, .tup ys => (intsOf xs).bind fun ns => (intsOf ys).map fun ms => lexC c ns ms
  | _, _ => none
def small64 (i : Int) : Bool := decide (-(2 ^ 64) < i ∧ i < 2 ^ 64)
def mulOk (i j : Int) : Bool := small64 i || small64 j || decide (i.natAbs.log2 + j.natAbs.log2 < 1000000)
def addD (μ : List Mo) (a b : D) : Option D := match see μ a, see μ b with
  | .int i, .int j => some (.int (i + j))
  | .bl i, .int j => some (.int ((if i = true then (1 : Int) else 0) + j))
  | .str x, .str y => if x.length + y.length ≤ sizeLine then some (.str (x ++ y)) else none
  | .tup xs, .tup ys => if xs.length + ys.length ≤ sizeLine then some (.tup (xs ++ ys)) else none
  | .lst xs, .lst ys => if xs.length + ys.length ≤ sizeLine then some (.lst (xs ++ ys)) else none
  | _, _ => none
def mulD (a b : D) : Option D := match a, b with
  | .int i, .int j => if mulOk i j = true then some (.int (i * j)) else none
  | .int i, .bl j => some (.int (i * if j = true then (1 : Int) else 0))
  | .tup xs, .int k => if (decide (-(2 ^ 63) ≤ k) && decide (k ≤ 1000) && decide (xs.length ≤ 1000)) = true then some (.tup (List.replicate k.toNat xs).flatten) else none
  | .lst xs, .int k => if (decide (-(2 ^ 63) ≤ k) && decide (k < 2 ^ 63) && decide (xs.length * k.toNat ≤ sizeLine)) = true then some (.lst (List.replicate k.toNat xs).flatten) else none
  | _, _ => none
inductive Op | add | sub | mul | fdiv | mod | pow | eq | ne | cm (c : Cm) | in_ | nin | is_ | isn
def isD (a b : D) : Option Bool := match a, b with
  | .bl x, .bl y => some (decide (x = y))
  | .non, .non => some true
  | .bl _, .non => some false
  | .int _, .non => some false
  | .str _, .non => some false
  | .tup _, .non => some false
  | .lst _, .non => some false
  | .obj _, .non => some false
  | _, _ => none
def Op.do (o : Op) (μ : List Mo) (a b : D) : Option D := match o with
  | .add => addD μ a b
  | .sub => (match a, b with
    | .int i, .int j => some (.int (i - j))
    | .bl i, .int j => some (.int ((if i = true then (1 : Int) else 0) - j))
    | _, _ => none)
  | .mul => mulD a b
  | .fdiv => (match a, b with
    | .int i, .int j => if (decide (0 < j) && decide (j.natAbs.log2 < 9000)) = true then some (.int (i / j)) else none
    | _, _ => none)
  | .mod => (match a, b with
    | .int i, .int j => if 0 < j then some (.int (i % j)) else none
    | _, _ => none)
  | .pow => (match a, b with
    | .int i, .int j => if (decide (0 ≤ j) && decide (j ≤ 1000000) && decide (i.natAbs < 2 ^ 64)) = true then some (.int (i ^ j.toNat)) else none
    | _, _ => none)
  | .eq => (eqD μ a b).map .bl
  | .ne => (eqD μ a b).map fun r => .bl (!r)
  | .cm c => (cmD c a b).map .bl
  | .in_ => (inD μ a b).map .bl
  | .nin => (inD μ a b).map fun r => .bl (!r)
  | .is_ => (isD a b).map .bl
  | .isn => (isD a b).map fun r => .bl (!r)
/-! ### built-ins by values -/
def lenD (μ : List Mo) : D → Option Nat
  | .tup xs => some xs.length
  | .lst xs => some xs.length
  | .scr ns => some ns.length
  | .str x => if x.length ≤ sizeLine then some x.length else none
  | .obj n => (match μ[n]? with
    | some (.lst xs) => some xs.length
    | some (.dct kvs) => some kvs.length
    | _ => none)
  | _ => none
/-- the name of a value's class -/
def tyD (μ : List Mo) : D → Option String
  | .non => some "NoneType"
  | .bl _ => some "bool"
  | .int _ => some "int"
  | .str _ => some "str"
  | .tup _ => some "tuple"
  | .lst _ => some "list"
  | .obj n => (match μ[n]? with
    | some (.lst _) => some "list"
    | some (.dct _) => some "dict"
    | _ => none)
  | _ => none
def isiD (μ : List Mo) (a b : D) : Option Bool := match b with
  | .ty n => (tyD μ a).bind fun t => L2.kitB t n
  | _ => none
inductive Bi | len | abs | int | str | min | max | sum | list | tuple | isi | any | bool | upper | split | join
def strsOf : List D → Option (List Str)
  | [] => some []
  | .str x :: ds => (strsOf ds).map fun xs => x :: xs
  | _ :: _ => none
def Bi.do (f : Bi) (μ : List Mo) : List D → Option D
  | [a] => (match f with
    | .len => (lenD μ a).map fun n => .int n
    | .abs => (match a with
      | .int i => some (.int (if i < 0 then -i else i))
      | _ => none)
    | .int => (match a with
      | .int i => some (.int i)
      | .bl b => some (.int (if b = true then 1 else 0))
      | .str x => if x.length ≤ 640 then (PySem.intText? x).map .int else none
      | _ => none)
    | .str => (match a with
      | .int i => if i.natAbs.log2 < 1920 then some (.str (toString i)) else none
      | .str x => some (.str x)
      | .bl b => some (.str (if b = true then "True" else "False"))
      | _ => none)
    | .upper => (match a with
      | .str x => if x.length ≤ 5592405 then some (.str (Txt.upper x)) else none
      | _ => none)
    | .sum => (match see μ a with
      | .lst xs => (intsOf xs).map fun ns => .int ns.sum
      | _ => none)
    | .list => (match see μ a with
      | .lst xs => some (.lst xs)
      | .tup xs => some (.lst xs)
      | _ => none)
    | .tuple => (match see μ a with
      | .lst xs => some (.tup xs)
      | .tup xs => some (.tup xs)
      | _ => none)
    | .bool => (match a with
      | .bl b => some (.bl b)
      | _ => none)
    | _ => none)
  | [a, b] => (match f with
    | .min => (match a, b with
      | .int i, .int j => some (.int (if j < i then j else i))
      | _, _ => none)
    | .max => (match a, b with
      | .int i, .int j => some (.int (if j > i then j else i))
      | _, _ => none)
    | .isi => (isiD μ a b).map .bl
    | .split => (match a, b with
      | .str x, .str y => if (!(y.length == 0) && decide (x.length + 2 ≤ sizeLine)) = true then some (.lst ((Txt.split x y).map .str)) else none
      | _, _ => none)
    | .join => (match a, see μ b with
      | .str x, .lst ds => (strsOf ds).bind fun ys => if (ys.map (·.length)).sum + ys.length * x.length ≤ 16777216 then some (.str (Txt.join x ys)) else none
      | .str x, .tup ds => (strsOf ds).bind fun ys => if (ys.map (·.length)).sum + ys.length * x.length ≤ 16777216 then some (.str (Txt.join x ys)) else none
      | _, _ => none)
    | _ => none)
  | _ => none
def ixD (μ : List Mo) (a i : D) : Option D := match see μ a, i with
  | .tup xs, .int j => L2.atI xs j
  | .lst xs, .int j => L2.atI xs j
  | .scr ns, .int j => (L2.atI ns j).map .int
  | .str z, .int j => if z.length ≤ sizeLine then (L2.atI z.cps.toList j).map fun c => .str ⟨#[c]⟩ else none
  | .obj n, .str z => (match μ[n]? with
    | some (.dct kvs) => kvs.lookup z
    | _ => none)
  | _, _ => none
def cutL {α : Type} (xs : List α) (lo hi : Option Int) : List α := (xs.drop (HT.sIx xs.length 0 lo)).take (HT.sIx xs.length xs.length hi - HT.sIx xs.length 0 lo)
def slD (μ : List Mo) (a : D) (l h : Option Int) : Option D := match see μ a with
  | .tup xs => some (.tup (cutL xs l h))
  | .lst xs => some (.lst (cutL xs l h))
  | .str z => if z.length ≤ sizeLine then some (.str (L2.cutS z l h)) else none
  | _ => none
def revD (μ : List Mo) (a : D) : Option D := match see μ a with
  | .lst xs => some (.lst xs.reverse)
  | .tup xs => some (.tup xs.reverse)
  | _ => none
/-! ### terms -/
/-- an exception of a class of one's own: its name, what its attribute holds -/
abbrev Ex := Str × Option D
abbrev RM (α : Type) := Option (Except Ex α × List Mo)
@[reducible] def bindR {α β : Type} (x : RM α) (f : α → List Mo → RM β) : RM β := match x with
  | none => none
  | some (.error e, μ) => some (.error e, μ)
  | some (.ok a, μ) => f a μ
def retR {α : Type} (a : α) (μ : List Mo) : RM α := some (.ok a, μ)
def optR {α : Type} (a : Option α) (μ : List Mo) : RM α := a.bind fun a => some (.ok a, μ)
/-- what a def comes to -/
abbrev Sem := List D → List Mo → RM D
/-- what a slot holds: nothing that is known; data; a list that it alone holds -/
inductive Sl | un | d (x : D) | lin (xs : List D)
inductive Tg
  | name (i : Nat)
  | pair (a b : Tg)
  | trip (a b c : Tg)
mutual
inductive E
  | var (i : Nat) | con (d : D)
  | op (o : Op) (a b : E) | neg (a : E) | not_ (a : E) | and_ (a b : E) | or_ (a b : E) | ite (c a b : E)
  | chain (o o' : Op) (a b c : E)
  | idx (a b : E) | lidx (i : Nat) (b : E) | slc (a : E) (lo hi : Eo) | rev (a : E)
  | tup (es : Es) | lst (es : Es) | mlst (es : Es)
  | call (F : Sem) (es : Es) | bi (f : Bi) (es : Es)
  | comp (elt : E) (tg : Tg) (it : It) (cond : E) (own : List Nat)
  | lrng (a : E)
  | err (nms : List (Str × Str)) (e : E)
  | meth (f : Bi) (o : E) (es : Es)
  | mrep (x k : E) | dct (ks : List Str) (es : Es)
  | nott (a : E)
inductive Es | nil | cons (e : E) (es : Es)
inductive Eo | no | yes (e : E)
inductive It | seq (e : E) | rng (a : E) | rng2 (a b : E) | enum (e : E) | zip (a b : E)
end
def wipeS (δ : List Sl) : List Nat → List Sl
  | [] => δ
  | v :: vs => (wipeS δ vs).set v .un
def Tg.put : Tg → D → List Sl → Option (List Sl)
  | .name i, d, δ => some (δ.set i (.d d))
  | .pair s t, .tup [a, b], δ => (s.put a δ).bind fun δ => t.put b δ
  | .trip s t u, .tup [a, b, c], δ => (s.put a δ).bind fun δ => (t.put b δ).bind fun δ => u.put c δ
  | _, _, _ => none
def Tg.slots : Tg → List Nat
  | .name i => [i]
  | .pair a b => a.slots ++ b.slots
  | .trip a b c => a.slots ++ (b.slots ++ c.slots)
/-- truth -/
def truD : D → Option Bool
  | .bl b => some b
  | .int i => some (!(i == 0))
  | _ => none
/-- no exception -/
def noE {α : Type} : RM α → Option (α × List Mo)
  | some (.ok a, μ) => some (a, μ)
  | _ => none
/-- the turns of a comprehension: keep tells whether, elt what -/
def compL (tg : Tg) (keep elt : List Sl → List Mo → RM D) (δ : List Sl) : List D → List D → List Mo → RM D
  | [], acc, μ => retR (.lst acc) μ
  | x :: xs, acc, μ => (tg.put x δ).bind fun δ1 => (noE (keep δ1 μ)).bind fun r => match r.1 with
    | .bl true => (noE (elt δ1 r.2)).bind fun q => if acc.length < sizeLine then compL tg keep elt δ xs (acc ++ [q.1]) q.2 else none
    | .bl false => compL tg keep elt δ xs acc r.2
    | _ => none
def rgD (a b : Int) : List D := (List.range (b - a).toNat).map fun (i : Nat) => D.int (a + i)
def rgOk (i j : Int) : Bool := decide (-(2 ^ 62) ≤ i) && decide (i < 2 ^ 62) && decide (-(2 ^ 62) ≤ j) && decide (j < 2 ^ 62)
def enumD (ds : List D) : List D := (List.range ds.length).zipWith (fun (i : Nat) d => D.tup [.int i, d]) ds
def zipD (xs ys : List D) : List D := xs.zipWith (fun x y => D.tup [x, y]) ys
/-- the items of a thing that is walked: true: a tuple -/
def seqD (μ : List Mo) (a : D) : Option (List D) := match see μ a with
  | .tup xs => some xs
  | .lst xs => some xs
  | _ => none
def enumK : D → Option (List D)
  | .lst xs => some (enumD xs)
  | .tup xs => some (enumD xs)
  | _ => none
def zipK : D → D → Option (List D)
  | .lst xs, .lst ys => some (zipD xs ys)
  | .tup xs, .tup ys => some (zipD xs ys)
  | _, _ => none
mutual
def ev : E → List Sl → List Mo → RM D
  | .var i, δ, μ => (match δ[i]? with
    | some (.d x) => retR x μ
    | _ => none)
  | .con d, _, μ => retR d μ
  | .op o a b, δ, μ => bindR (ev a δ μ) fun x μ => bindR (ev b δ μ) fun y μ => optR (o.do μ x y) μ
  | .neg a, δ, μ => bindR (ev a δ μ) fun x μ => (match x with
    | .int i => retR (.int (-i)) μ
    | _ => none)
  | .not_ a, δ, μ => bindR (ev a δ μ) fun x μ => (match x with
    | .bl b => retR (.bl (!b)) μ
    | _ => none)
  | .and_ a b, δ, μ => bindR (ev a δ μ) fun x μ => (match x with
    | .bl true => ev b δ μ
    | .bl false => retR (.bl false) μ
    | _ => none)
  | .or_ a b, δ, μ => bindR (ev a δ μ) fun x μ => (match x with
    | .bl true => retR (.bl true) μ
    | .bl false => ev b δ μ
    | _ => none)
  | .ite c a b, δ, μ => bindR (ev c δ μ) fun x μ => (match x with
    | .bl true => ev a δ μ
    | .bl false => ev b δ μ
    | _ => none)
  | .chain o o' a b c, δ, μ => bindR (ev a δ μ) fun x μ => bindR (ev b δ μ) fun y μ => bindR (optR (o.do μ x y) μ) fun z μ => (match z with
    | .bl true => bindR (ev c δ μ) fun w μ => optR (o'.do μ y w) μ
    | .bl false => retR (.bl false) μ
    | _ => none)
  | .idx a b, δ, μ => bindR (ev a δ μ) fun x μ => bindR (ev b δ μ) fun y μ => optR (ixD μ x y) μ
  | .lidx i b, δ, μ => (match δ[i]? with
    | some (.lin xs) => bindR (ev b δ μ) fun y μ => (match y with
      | .int j => optR (L2.atI xs j) μ
      | _ => none)
    | _ => none)
  | .slc a lo hi, δ, μ => bindR (ev a δ μ) fun x μ => bindR (evo lo δ μ) fun l μ => bindR (evo hi δ μ) fun h μ => optR (slD μ x l h) μ
  | .rev a, δ, μ => bindR (ev a δ μ) fun x μ => optR (revD μ x) μ
  | .tup es, δ, μ => bindR (evs es δ μ) fun xs μ => if xs.length ≤ sizeLine then retR (.tup xs) μ else none
  | .lst es, δ, μ => bindR (evs es δ μ) fun xs μ => if xs.length ≤ sizeLine then retR (.lst xs) μ else none
  | .mlst es, δ, μ => bindR (evs es δ μ) fun xs μ => if xs.length ≤ sizeLine then retR (.obj μ.length) (μ ++ [.lst xs]) else none
  | .call F es, δ, μ => bindR (evs es δ μ) fun xs μ => F xs μ
  | .bi f es, δ, μ => bindR (evs es δ μ) fun xs μ => optR (f.do μ xs) μ
  | .comp elt tg it cond own, δ, μ => bindR (evi it δ μ) fun xs μ => compL tg (ev cond) (ev elt) (wipeS δ own) xs [] μ
  | .lrng a, δ, μ => bindR (ev a δ μ) fun x μ => (match x with
    | .int j => if (decide (-(2 ^ 62) ≤ j) && decide (j ≤ 16777216)) = true then retR (.lst (rgD 0 j)) μ else none
    | _ => none)
  | .err nms e, δ, μ => (match ev e δ μ with
    | some (.ok _, μ) => retR (.str "") μ
    | some (.error (c, none), μ) => optR ((nms.lookup c).map .str) μ
    | _ => none)
  | .meth f o es, δ, μ => bindR (ev o δ μ) fun x μ => (match x with
    | .str z => bindR (evs es δ μ) fun xs μ => optR (f.do μ (.str z :: xs)) μ
    | _ => none)
  | .mrep x k, δ, μ => bindR (ev x δ μ) fun d μ => bindR (ev k δ μ) fun y μ => (match y with
    | .int j => if (decide (-(2 ^ 63) ≤ j) && decide (j < 2 ^ 63) && decide (j.toNat ≤ sizeLine)) = true then retR (.obj μ.length) (μ ++ [.lst (List.replicate j.toNat d)]) else none
    | _ => none)
  | .dct ks es, δ, μ => bindR (evs es δ μ) fun xs μ => if (decide (ks.length = xs.length) && decide (ks.length ≤ 15) && decide ks.Nodup && !ks.isEmpty) = true then retR (.obj μ.length) (μ ++ [.dct (ks.zip xs)]) else none
  | .nott a, δ, μ => bindR (ev a δ μ) fun x μ => optR ((truD x).map fun b => .bl (!b)) μ
def evs : Es → List Sl → List Mo → RM (List D)
  | .nil, _, μ => retR [] μ
  | .cons e es, δ, μ => bindR (ev e δ μ) fun x μ => bindR (evs es δ μ) fun xs μ => retR (x :: xs) μ
def evo : Eo → List Sl → List Mo → RM (Option Int)
  | .no, _, μ => retR none μ
  | .yes e, δ, μ => bindR (ev e δ μ) fun x μ => (match x with
    | .int i => retR (some i) μ
    | _ => none)
def evi : It → List Sl → List Mo → RM (List D)
  | .seq e, δ, μ => bindR (ev e δ μ) fun x μ => optR (seqD [] x) μ
  | .rng a, δ, μ => bindR (ev a δ μ) fun x μ => (match x with
    | .int j => if rgOk 0 j = true then retR (rgD 0 j) μ else none
    | _ => none)
  | .rng2 a b, δ, μ => bindR (ev a δ μ) fun x μ => bindR (ev b δ μ) fun y μ => (match x, y with
    | .int i, .int j => if rgOk i j = true then retR (rgD i j) μ else none
    | _, _ => none)
  | .enum e, δ, μ => bindR (ev e δ μ) fun x μ => optR (enumK x) μ
  | .zip a b, δ, μ => bindR (ev a δ μ) fun x μ => bindR (ev b δ μ) fun y μ => optR (zipK x y) μ
end
/-! ### statements -/
inductive Fl | nx | bk | ct | rt (d : D) | ex (e : Ex)
abbrev SM := Option (Fl × List Sl × List Mo)
mutual
inductive St
  | pass | expr (e : E) | set (t : Tg) (e : E) | ret (e : E) | retn | ite (c : E) (a b : Ss)
  | for_ (t : Tg) (it : It) (body : Ss) | while_ (fuel : Nat) (c : E) (body : Ss) | brk | cont
  | raise (c : Str)
  | put (o i e : E) | lin (i : Nat) (es : Es) | app (i : Nat) (e : E) | still (i : Nat) | bot
inductive Ss | nil | cons (s : St) (ss : Ss)
end
@[reducible] def thenE {α : Type} (x : RM α) (δ : List Sl) (f : α → List Mo → SM) : SM := match x with
  | none => none
  | some (.error e, μ) => some (.ex e, δ, μ)
  | some (.ok a, μ) => f a μ
@[reducible] def thenS (x : SM) (f : List Sl → List Mo → SM) : SM := match x with
  | some (.nx, δ, μ) => f δ μ
  | x => x
def forL (tg : Tg) (body : List Sl → List Mo → SM) : List D → List Sl → List Mo → SM
  | [], δ, μ => some (.nx, δ, μ)
  | x :: xs, δ, μ => (tg.put x δ).bind fun δ1 => match body δ1 μ with
    | some (.nx, δ, μ) => forL tg body xs δ μ
    | some (.ct, δ, μ) => forL tg body xs δ μ
    | some (.bk, δ, μ) => some (.nx, δ, μ)
    | r => r
def whileL (test : List Sl → List Mo → RM D) (body : List Sl → List Mo → SM) : Nat → List Sl → List Mo → SM
  | 0, _, _ => none
  | n + 1, δ, μ => thenE (test δ μ) δ fun c μ => match c with
    | .bl true => (match body δ μ with
      | some (.nx, δ, μ) => whileL test body n δ μ
      | some (.ct, δ, μ) => whileL test body n δ μ
      | some (.bk, δ, μ) => some (.nx, δ, μ)
      | r => r)
    | .bl false => some (.nx, δ, μ)
    | _ => none
/-- the value at a key that is there is another -/
def putS (kvs : List (Str × D)) (z : Str) (v : D) : List (Str × D) := kvs.map fun p => if p.1 = z then (p.1, v) else p
/-- o[i] = v -/
def putD (μ : List Mo) (o i v : D) : Option (List Mo) := match o with
  | .obj n => (match μ[n]?, i with
    | some (.lst xs), .int k => (L2.ixN xs.length k).map fun j => μ.set n (.lst (xs.set j v))
    | some (.dct kvs), .str z => if (decide (kvs.length ≤ 1000) && (kvs.lookup z).isSome) = true then some (μ.set n (.dct (putS kvs z v))) else none
    | _, _ => none)
  | _ => none
mutual
def ex : St → List Sl → List Mo → SM
  | .pass, δ, μ => some (.nx, δ, μ)
  | .expr e, δ, μ => thenE (ev e δ μ) δ fun _ μ => some (.nx, δ, μ)
  | .set t e, δ, μ => thenE (ev e δ μ) δ fun x μ => (t.put x δ).bind fun δ => some (.nx, δ, μ)
  | .ret e, δ, μ => thenE (ev e δ μ) δ fun x μ => some (.rt x, δ, μ)
  | .retn, δ, μ => some (.rt .non, δ, μ)
  | .ite c a b, δ, μ => thenE (ev c δ μ) δ fun x μ => (match x with
    | .bl true => exs a δ μ
    | .bl false => exs b δ μ
    | _ => none)
  | .for_ t it body, δ, μ => thenE (evi it δ μ) δ fun xs μ => forL t (exs body) xs δ μ
  | .while_ n c body, δ, μ => whileL (ev c) (exs body) n δ μ
  | .brk, δ, μ => some (.bk, δ, μ)
  | .cont, δ, μ => some (.ct, δ, μ)
  | .raise c, δ, μ => some (.ex (c, none), δ, μ)
  | .put o i e, δ, μ => thenE (ev e δ μ) δ fun v μ => thenE (ev o δ μ) δ fun x μ => thenE (ev i δ μ) δ fun k μ => (putD μ x k v).bind fun μ => some (.nx, δ, μ)
  | .lin i es, δ, μ => thenE (evs es δ μ) δ fun xs μ => if xs.length ≤ sizeLine then some (.nx, δ.set i (.lin xs), μ) else none
  | .app i e, δ, μ => (match δ[i]? with
    | some (.lin xs) => thenE (ev e δ μ) δ fun x μ => if xs.length < sizeLine then some (.nx, δ.set i (.lin (xs ++ [x])), μ) else none
    | _ => none)
  | .still i, δ, μ => (match δ[i]? with
    | some (.lin xs) => some (.nx, δ.set i (.d (.lst xs)), μ)
    | _ => none)
  | .bot, _, _ => none
def exs : Ss → List Sl → List Mo → SM
  | .nil, δ, μ => some (.nx, δ, μ)
  | .cons s ss, δ, μ => thenS (ex s δ μ) fun δ μ => exs ss δ μ
end
/-- a def: so many parameters, so many slots, its body -/
def run (np ns : Nat) (b : Ss) : Sem := fun xs μ => if xs.length = np then (match exs b (xs.map .d ++ List.replicate (ns - np) .un) μ with
  | some (.nx, _, μ) => retR .non μ
  | some (.rt d, _, μ) => retR d μ
  | some (.ex e, _, μ) => some (.error e, μ)
  | _ => none) else none
end Mi
set_option Elab.async false
set_option linter.all false
set_option maxRecDepth 100000
set_option maxHeartbeats 4000000
/-! Mv: the operators' rules over data. -/
namespace Mi
open PySem PySem.Spec PyProof.Rows L2
section
variable {K : PySem.W.Frag} {mg : Str → Option Value} {T : List (Addr × Str)} {ι Z Zf ι' Z' : List Addr} {H H' : Hp} {μ : List Mo}
theorem ext_fresh {p : Addr} {o : HO} (hp : H p = none) : Ext ι Zf H ι (upd H p o) := by
  refine ⟨⟨[], by simp, by simp⟩, fun a u q _ _ _ => ?_, fun a u q => ⟨u, ?_⟩, fun a xs q => ?_⟩
  · rw [upd_ne (ne_of_none q hp)]; exact q
  · rw [upd_ne (ne_of_none q hp)]; exact q
  · rw [upd_ne (ne_of_none q hp)]; exact q
theorem RG.fresh (g : RG K mg T ι Z H μ) {p : Addr} {o : HO} (hp : H p = none) : RG K mg T ι Z (upd H p o) μ := by
  refine ⟨g.nd, g.len, fun n m h => ?_, fun z hz => ?_, g.tabs.ext fun b u q => ?_⟩
  · obtain ⟨a, h1, h2⟩ := g.mem n m h
    obtain ⟨u, q, _⟩ := h2.at
    exact ⟨a, h1, h2.ext (Zf := []) (ext_fresh hp) (by simp) (fun _ z => .inl z) (upd_ne (ne_of_none q hp))⟩
  · obtain ⟨⟨vs, q⟩, n⟩ := g.zl z hz
    exact ⟨⟨vs, by rw [upd_ne (ne_of_none q hp)]; exact q⟩, n⟩
  · rw [upd_ne (ne_of_none q hp)]; exact q
/-- a new tuple, a new list -/
theorem Rp.newT {p : Addr} {ds : List D} {vs : List V} (hp : H p = none) (h : Rps K mg ι Z H ds vs) : Rp K mg ι Z (upd H p (.tup vs)) (.tup ds) (.ref p) :=
  ⟨p, vs, rfl, .inl upd_same, h.ext0 (ext_fresh hp)⟩
theorem RG.notin (g : RG K mg T ι Z H μ) {p : Addr} (hp : H p = none) : p ∉ ι ∧ p ∉ Z := by
  refine ⟨fun z => ?_, fun z => ?_⟩
  · obtain ⟨n, e⟩ := List.getElem?_of_mem z
    have hn : n < μ.length := by rw [← g.len]; exact (List.getElem?_eq_some_iff.mp e).1
    obtain ⟨a, h1, h2⟩ := g.mem n μ[n] (List.getElem?_eq_getElem hn)
    rw [e] at h1; cases h1
    obtain ⟨u, q, _⟩ := h2.at
    rw [hp] at q; cases q
  · obtain ⟨⟨vs, q⟩, _⟩ := g.zl p z
    rw [hp] at q; cases q
theorem Rp.newL (g : RG K mg T ι Z H μ) {p : Addr} {ds : List D} {vs : List V} (hp : H p = none) (h : Rps K mg ι Z H ds vs) : Rp K mg ι Z (upd H p (.lst vs)) (.lst ds) (.ref p) :=
  ⟨p, vs, rfl, ⟨upd_same, g.notin hp⟩, h.ext0 (ext_fresh hp)⟩
theorem see_cases (μ : List Mo) (d : D) : see μ d = d ∨ ∃ n xs, d = .obj n ∧ μ[n]? = some (.lst xs) ∧ see μ d = .lst xs := by
  cases d with
  | obj n =>
    cases h : μ[n]? with
    | none => exact .inl (by simp only [see, h])
    | some m =>
      cases m with
      | lst xs => exact .inr ⟨n, xs, rfl, h, by simp only [see, h]⟩
      | dct _ => exact .inl (by simp only [see, h])
      | ins _ _ => exact .inl (by simp only [see, h])
  | _ => exact .inl rfl
theorem see_lst (g : RG K mg T ι Z H μ) {d : D} {xs : List D} {v : V} (e : see μ d = .lst xs) (h : Rp K mg ι Z H d v) : ∃ a vs, v = .ref a ∧ H a = some (.lst vs) ∧ Rps K mg ι Z H xs vs := by
  rcases see_cases μ d with q | ⟨n, ys, rfl, h1, q⟩
  · rw [q] at e; subst e
    obtain ⟨a, vs, h1, ⟨h2, _⟩, h3⟩ := h
    exact ⟨a, vs, h1, h2, h3⟩
  · rw [q] at e; cases e
    obtain ⟨a, h2, vs, h3, h4⟩ := g.mem n _ h1
    obtain ⟨b, rfl, h5⟩ := h
    rw [h5] at h2; cases h2
    exact ⟨_, vs, rfl, h3, h4⟩
theorem see_of {d e : D} (h : see μ d = e) (n : ∀ xs, e ≠ .lst xs) : d = e := by
  rcases see_cases μ d with q | ⟨_, xs, _, _, q⟩
  · rw [← q]; exact h
  · rw [q] at h; exact absurd h.symm (n xs)
theorem see_seq (g : RG K mg T ι Z H μ) {d : D} {xs : List D} {v : V} (e : see μ d = .tup xs) (h : Rp K mg ι Z H d v) : ∃ a vs, v = .ref a ∧ TupAt K H a vs ∧ Rps K mg ι Z H xs vs := by
  have := see_of e (fun _ z => by cases z)
  subst this
  exact h
mutual
theorem dp_of : ∀ (d : D) (v : V) (p : PyData), Rp K mg ι Z H d v → py0 d = some p → Dp K H v p
  | .non, _, _, h, e => by rw [show _ = V.non from h]; simp only [py0, Option.some.injEq] at e; subst e; exact .non
  | .bl b, _, _, h, e => by rw [show _ = V.bl b from h]; simp only [py0, Option.some.injEq] at e; subst e; exact .bl b
  | .int i, _, _, h, e => by rw [show _ = V.int i from h]; simp only [py0, Option.some.injEq] at e; subst e; exact .int i
  | .str x, _, _, h, e => by rw [show _ = V.str x from h]; simp only [py0, Option.some.injEq] at e; subst e; exact .str x
  | .tup ds, v, p, h, e => by
    obtain ⟨a, vs, rfl, h1, h2⟩ := h
    simp only [py0, Option.map_eq_some_iff] at e
    obtain ⟨ps, e1, rfl⟩ := e
    exact .tup h1.sq (dps_of ds vs ps h2 e1)
  | .lst ds, v, p, h, e => by
    obtain ⟨a, vs, rfl, ⟨h1, _⟩, h2⟩ := h
    simp only [py0, Option.map_eq_some_iff] at e
    obtain ⟨ps, e1, rfl⟩ := e
    exact .lst (SqL.of h1) (dps_of ds vs ps h2 e1)
  | .ty _, _, _, _, e => by simp [py0] at e
  | .glo _, _, _, _, e => by simp [py0] at e
  | .obj _, _, _, _, e => by simp [py0] at e
  | .scr _, _, _, _, e => by simp [py0] at e
theorem dps_of : ∀ (ds : List D) (vs : List V) (ps : List PyData), Rps K mg ι Z H ds vs → py0s ds = some ps → DpAll K H vs ps
  | [], _, _, h, e => by rw [show _ = [] from h]; simp only [py0s, Option.some.injEq] at e; subst e; exact .nil
  | d :: ds, _, _, h, e => by
    obtain ⟨v, vs', rfl, h1, h2⟩ := h
    simp only [py0s, Option.bind_eq_some_iff, Option.map_eq_some_iff] at e
    obtain ⟨p, e1, ps, e2, rfl⟩ := e
    exact .cons (dp_of d v p h1 e1) (dps_of ds vs' ps h2 e2)
end
theorem dp_see (g : RG K mg T ι Z H μ) {d : D} {v : V} {p : PyData} (h : Rp K mg ι Z H d v) (e : py0 (see μ d) = some p) : Dp K H v p := by
  rcases see_cases μ d with q | ⟨n, xs, rfl, h1, q⟩
  · rw [q] at e; exact dp_of d v p h e
  · rw [q] at e
    obtain ⟨a, vs, rfl, h2, h3⟩ := see_lst g q h
    simp only [py0, Option.map_eq_some_iff] at e
    obtain ⟨ps, e1, rfl⟩ := e
    exact .lst (SqL.of h2) (dps_of xs vs ps h3 e1)
theorem intsOf_eq : ∀ {ds : List D} {ns : List Int}, intsOf ds = some ns → ds = ns.map D.int
  | [], _, e => by simp only [intsOf, Option.some.injEq] at e; subst e; rfl
  | d :: ds, ns, e => by
    cases d <;> simp only [intsOf] at e
    case int i =>
      simp only [Option.map_eq_some_iff] at e
      obtain ⟨ms, e1, rfl⟩ := e
      rw [intsOf_eq e1]; rfl
    all_goals cases e
end
/-- what an operator's rule asks: data on both sides, the outcome by the small language -/
def r2 (K : PySem.W.Frag) (mg : Str → Option Value) (T : List (Addr × Str)) (o : Op) : R2 := fun x y H Q => ∃ ι Z μ d e r, RG K mg T ι Z H μ ∧ Rp K mg ι Z H d x ∧ Rp K mg ι Z H e y ∧ o.do μ d e = some r ∧
  ∀ ι' v H', Ext ι [] H ι' H' → RG K mg T ι' Z H' μ → Rp K mg ι' Z H' r v → Q v H'
section
variable {X : Cx} {T : List (Addr × Str)}
theorem ok_add : OpR X (binaryOp .Add) (r2 X.K X.mg T .add) := by
  intro pins s σ H x y v u Q I rx ry h
  obtain ⟨ι, Z, μ, d, e, r, g, hd, he, ho, q⟩ := h
  simp only [Op.do, addD] at ho
  split at ho
  · rename_i i j e1 e2
    have e1 := see_of e1 (fun _ z => by cases z)
    have e2 := see_of e2 (fun _ z => by cases z)
    subst e1 e2
    cases ho
    exact op_add pins s σ H x y v u Q I rx ry ⟨i, j, hd, he, q ι _ H Ext.refl g rfl⟩
  · rename_i i j e1 e2
    have e1 := see_of e1 (fun _ z => by cases z)
    have e2 := see_of e2 (fun _ z => by cases z)
    subst e1 e2
    cases ho
    have hd' : x = V.bl i := hd
    have he' : y = V.int j := he
    subst hd' he'
    cases rx
    obtain ⟨t', rfl⟩ := ry
    exact PySem.IntBool.add_bool_int ⟨.int _, H, I.tok _, ⟨_, rfl⟩, q ι _ H Ext.refl g rfl⟩
  · rename_i i j e1 e2
    have e1 := see_of e1 (fun _ z => by cases z)
    have e2 := see_of e2 (fun _ z => by cases z)
    subst e1 e2
    split at ho <;> cases ho
    rename_i hz
    exact op_add_str pins s σ H x y v u Q I rx ry ⟨i, j, hd, he, hz, q ι _ H Ext.refl g rfl⟩
  · rename_i xs ys e1 e2
    obtain ⟨a, vs, rfl, h1, h2⟩ := see_seq g e1 hd
    obtain ⟨b, ws, rfl, h3, h4⟩ := see_seq g e2 he
    split at ho <;> cases ho
    rename_i hz
    have l1 := h2.length
    have l2 := h4.length
    refine op_catA pins s σ H _ _ v u Q I rx ry ⟨a, b, vs, ws, rfl, rfl, h1.sq, h3.sq, by omega, fun z => ?_, fun z1 z2 => ?_, fun z1 z2 p hp => ?_⟩
    · have := h2.nil_iff.mp z; subst this; subst z
      exact q ι _ H Ext.refl g ⟨b, ws, rfl, h3, by simpa using h4⟩
    · have := h4.nil_iff.mp z2; subst this; subst z2
      exact q ι _ H Ext.refl g ⟨a, vs, rfl, h1, by simpa using h2⟩
    · exact q ι _ _ (ext_fresh hp) (g.fresh hp) (Rp.newT hp (h2.append h4))
  · rename_i xs ys e1 e2
    obtain ⟨a, vs, rfl, h1, h2⟩ := see_lst g e1 hd
    obtain ⟨b, ws, rfl, h3, h4⟩ := see_lst g e2 he
    split at ho <;> cases ho
    rename_i hz
    have l1 := h2.length
    have l2 := h4.length
    exact op_cat pins s σ H _ _ v u Q I rx ry ⟨a, b, vs, ws, rfl, rfl, h1, h3, by omega, fun p hp => q ι _ _ (ext_fresh hp) (g.fresh hp) (Rp.newL g hp (h2.append h4))⟩
  · cases ho
theorem ok_sub : OpR X (binaryOp .Sub) (r2 X.K X.mg T .sub) := by
  intro pins s σ H x y v u Q I rx ry h
  obtain ⟨ι, Z, μ, d, e, r, g, hd, he, ho, q⟩ := h
  simp only [Op.do] at ho
  split at ho <;> cases ho
  · exact op_sub pins s σ H x y v u Q I rx ry ⟨_, _, hd, he, q ι _ H Ext.refl g rfl⟩
  · have hd' : x = V.bl _ := hd
    have he' : y = V.int _ := he
    subst hd' he'
    cases rx
    obtain ⟨t', rfl⟩ := ry
    exact PySem.IntBool.sub_bool_int ⟨.int _, H, I.tok _, ⟨_, rfl⟩, q ι _ H Ext.refl g rfl⟩
theorem ok_fdiv : OpR X (binaryOp .FloorDiv) (r2 X.K X.mg T .fdiv) := by
  intro pins s σ H x y v u Q I rx ry h
  obtain ⟨ι, Z, μ, d, e, r, g, hd, he, ho, q⟩ := h
  simp only [Op.do] at ho
  split at ho
  · split at ho <;> cases ho
    rename_i hc
    simp only [Bool.and_eq_true, decide_eq_true_eq] at hc
    exact op_fdivW pins s σ H x y v u Q I rx ry ⟨_, _, hd, he, ⟨hc.1, hc.2⟩, q ι _ H Ext.refl g rfl⟩
  · cases ho
theorem ok_mod : OpR X (binaryOp .Mod) (r2 X.K X.mg T .mod) := by
  intro pins s σ H x y v u Q I rx ry h
  obtain ⟨ι, Z, μ, d, e, r, g, hd, he, ho, q⟩ := h
  simp only [Op.do] at ho
  split at ho
  · split at ho <;> cases ho
    rename_i hc
    exact op_mod pins s σ H x y v u Q I rx ry ⟨_, _, hd, he, hc, q ι _ H Ext.refl g rfl⟩
  · cases ho
theorem ok_pow : OpR X (binaryOp .Pow) (r2 X.K X.mg T .pow) := by
  intro pins s σ H x y v u Q I rx ry h
  obtain ⟨ι, Z, μ, d, e, r, g, hd, he, ho, q⟩ := h
  simp only [Op.do] at ho
  split at ho
  · split at ho <;> cases ho
    rename_i hc
    simp only [Bool.and_eq_true, decide_eq_true_eq] at hc
    exact op_pow pins s σ H x y v u Q I rx ry ⟨_, _, hd, he, ⟨hc.1.1, hc.1.2, hc.2⟩, q ι _ H Ext.refl g rfl⟩
  · cases ho
theorem ok_eq (hu : X.A.units + 64 < cLine) : OpR X (compareOp .Eq) (r2 X.K X.mg T .eq) := by
  intro pins s σ H x y v u Q I rx ry h
  obtain ⟨ι, Z, μ, d, e, r, g, hd, he, ho, q⟩ := h
  simp only [Op.do, Option.map_eq_some_iff, eqD, Option.bind_eq_some_iff] at ho
  obtain ⟨b, ⟨p1, e1, p2, e2, ho⟩, rfl⟩ := ho
  split at ho <;> cases ho
  rename_i hs
  rw [Bool.and_eq_true] at hs
  exact op_eqD hu pins s σ H x y v u Q I rx ry ⟨p1, p2, dp_see g hd e1, dp_see g he e2, hs.1, hs.2, q ι _ H Ext.refl g rfl⟩
theorem ok_ne (hu : X.A.units + 64 < cLine) : OpR X (compareOp .NotEq) (r2 X.K X.mg T .ne) := by
  intro pins s σ H x y v u Q I rx ry h
  obtain ⟨ι, Z, μ, d, e, r, g, hd, he, ho, q⟩ := h
  simp only [Op.do, Option.map_eq_some_iff, eqD, Option.bind_eq_some_iff] at ho
  obtain ⟨b, ⟨p1, e1, p2, e2, ho⟩, rfl⟩ := ho
  split at ho <;> cases ho
  rename_i hs
  rw [Bool.and_eq_true] at hs
  exact op_neD hu pins s σ H x y v u Q I rx ry ⟨p1, p2, dp_see g hd e1, dp_see g he e2, hs.1, hs.2, q ι _ H Ext.refl g rfl⟩
end
end Mi
set_option Elab.async false
set_option linter.all false
set_option maxRecDepth 100000
set_option maxHeartbeats 4000000
/-! Mw: more operators: tuple * int of any count, order of tuples, in, is. -/
namespace Mi
open PySem PySem.Spec PyProof.Rows L2
theorem tuple_mul_same (l : Addr) (items : Array Value) (n : Nat) (dd : Option Addr) (sl : Array (Option Value)) (x : Int) (u : Tok) (c0 : (decide (x < -(2 ^ 63)) || decide (x ≥ 2 ^ 63)) = false) (c1 : (items.isEmpty || x == 1) = true) :
    Meets (Builtin.«tuple.__mul__» ⟨[.ref l, .int x u], []⟩) (fun _ R s => s.heap.get? l = some { cls := .type "tuple", dict := dd, data := .seq items n, slots := sl } ∧ R (.ok (.ret (Value.ref l))) s) :=
  .of_wp fun prog w A R s h => by
    obtain ⟨hp, g, d, tk, os⟩ := s
    obtain ⟨hl, h⟩ := h
    have f1 := AutoSeq1.idx_int
    wp_walk using wpAny_loadPart' hl
    repeat (first
      | (refine wpAny_ite_false (decide_eq_false (by rw [c0]; exact Bool.false_ne_true)) ?_; wp_walk using wpAny_loadPart' hl)
      | (refine wpAny_ite_true (decide_eq_true c1) ?_; wp_walk using wpAny_loadPart' hl))
    exact ⟨_, rfl, h⟩
theorem tuple_mul_none (l : Addr) (items : Array Value) (n : Nat) (dd : Option Addr) (sl : Array (Option Value)) (x : Int) (u : Tok) (c0 : (decide (x < -(2 ^ 63)) || decide (x ≥ 2 ^ 63)) = false) (c1 : (items.isEmpty || x == 1) = false) (c2 : (decide (x ≤ 0) || items.isEmpty) = true) :
    Meets (Builtin.«tuple.__mul__» ⟨[.ref l, .int x u], []⟩) (fun _ R s => s.heap.get? l = some { cls := .type "tuple", dict := dd, data := .seq items n, slots := sl } ∧
      R (.ok (.ret (Value.ref s.heap.objs.size))) { s with heap := s.heap.push { cls := Value.type "tuple", data := Data.seq #[] }, toks := s.toks }) :=
  .of_wp fun prog w A R s h => by
    obtain ⟨hp, g, d, tk, os⟩ := s
    obtain ⟨hl, h⟩ := h
    have f1 := AutoSeq1.idx_int
    wp_walk using wpAny_loadPart' hl
    repeat (first
      | (refine wpAny_ite_false (decide_eq_false (by rw [c0]; exact Bool.false_ne_true)) ?_; wp_walk using wpAny_loadPart' hl)
      | (refine wpAny_ite_false (decide_eq_false (by rw [c1]; exact Bool.false_ne_true)) ?_; wp_walk using wpAny_loadPart' hl)
      | (refine wpAny_ite_true (decide_eq_true c2) ?_; wp_walk using wpAny_loadPart' hl))
    exact ⟨_, rfl, h⟩
section
variable {X : Cx}
/-- t * k of any count *-/
def rRepA (K : PySem.W.Frag) : R2 := fun x y H Q => ∃ l k xs, x = .ref l ∧ y = .int k ∧ SqT K H l xs ∧ -(2 ^ 63) ≤ k ∧ k ≤ 1000 ∧ xs.length ≤ 1000 ∧
  ((xs = [] ∨ k = 1) → Q (.ref l) H) ∧ (xs ≠ [] → k ≠ 1 → ∀ p, H p = none → Q (.ref p) (upd H p (.tup (List.replicate k.toNat xs).flatten)))
theorem op_repA : OpR X (binaryOp .Mult) (rRepA X.K) := by
  intro pins s σ H x y v u Q I rx ry h
  obtain ⟨l, k, xs, rfl, rfl, hT, h1, h2, hz, q1, q2⟩ := h
  by_cases hb : xs ≠ [] ∧ 2 ≤ k
  · exact op_repT pins s σ H _ _ v u Q I rx ry ⟨l, k, xs, rfl, rfl, hT, hb.1, hb.2, h2, hz, q2 hb.1 (by omega)⟩
  · cases rx
    obtain ⟨t, rfl⟩ := ry
    obtain ⟨its, r, ⟨⟨cls, dd, data, sl⟩, ho, hc, n, hd⟩, hs⟩ := I.tuple hT
    simp only at hc hd
    subst hc hd
    have hle : its.length = xs.length := r.length.symm
    have c0 : (decide (k < -(2 ^ 63)) || decide (k ≥ 2 ^ 63)) = false := by
      rw [decide_eq_false (by omega), decide_eq_false (by omega)] <;> rfl
    by_cases h3 : xs = [] ∨ k = 1
    · have c1 : (its.toArray.isEmpty || k == 1) = true := by
        rcases h3 with e | e
        · subst e
          have : its = [] := List.eq_nil_of_length_eq_zero hle
          subst this; rfl
        · subst e; simp
      exact wpAny_binaryOp_repeat_ref (T := "tuple") (U := "int") (by decide) ⟨_, ho, rfl⟩ (fun s' => typeIs_int s' k t) noFill_tuple_mul F.fills_int_mul F.slot_int_rmul repeat_tuple F.slot_int_index.lookup
        (call_meets F.slot_int_rmul (typeIs_int s k t) F.entry_int_rmul (F.args_int_rmul_2 _ _) (int_rmul_tuple k t l its.toArray n dd sl)
          ⟨ho, rfl, ⟨_, ho, rfl⟩, call_meets F.slot_tuple_mul ⟨_, ho, rfl⟩ F.entry_tuple_mul (F.args_tuple_mul_2 _ _) (tuple_mul_same l its.toArray n dd sl k t c0 c1) ⟨ho, .ref l, H, I, rfl, q1 h3⟩⟩)
    · have hne : xs ≠ [] := fun e => h3 (.inl e)
      have hk1 : k ≠ 1 := fun e => h3 (.inr e)
      have hk : k ≤ 0 := by
        have : ¬ 2 ≤ k := fun z => hb ⟨hne, z⟩
        omega
      have hi : its.toArray.isEmpty = false := by
        cases its with
        | nil => exact absurd (List.eq_nil_of_length_eq_zero hle.symm) hne
        | cons a b => rfl
      have c1 : (its.toArray.isEmpty || k == 1) = false := by
        rw [hi, Bool.false_or]
        exact beq_eq_false_iff_ne.mpr hk1
      have c2 : (decide (k ≤ 0) || its.toArray.isEmpty) = true := by rw [decide_eq_true hk]; rfl
      have ez : List.replicate k.toNat xs = [] := by
        rw [show k.toNat = 0 by omega]; rfl
      have q3 := q2 hne hk1
      rw [ez] at q3
      exact wpAny_binaryOp_repeat_ref (T := "tuple") (U := "int") (by decide) ⟨_, ho, rfl⟩ (fun s' => typeIs_int s' k t) noFill_tuple_mul F.fills_int_mul F.slot_int_rmul repeat_tuple F.slot_int_index.lookup
        (call_meets F.slot_int_rmul (typeIs_int s k t) F.entry_int_rmul (F.args_int_rmul_2 _ _) (int_rmul_tuple k t l its.toArray n dd sl)
          ⟨ho, rfl, ⟨_, ho, rfl⟩, call_meets F.slot_tuple_mul ⟨_, ho, rfl⟩ F.entry_tuple_mul (F.args_tuple_mul_2 _ _) (tuple_mul_none l its.toArray n dd sl k t c0 c1 c2)
            ⟨ho, .ref s.heap.objs.size, _, I.laid (t' := s.toks) (o := .tup []) (fun b ob q => Heap.get?_push_of_some _ q) (Nat.le_refl _) ⟨Nat.zero_le _, [], .nil, IsTup.new _ _⟩, rfl, q3 _ (I.hok.fresh (Nat.le_refl _))⟩⟩)
end
section
variable {X : Cx} {T : List (Addr × Str)}
theorem mulOk_ok {i j : Int} (h : mulOk i j = true) : CMul i j ∨ CMulW i j := by
  unfold mulOk small64 at h
  simp only [Bool.or_eq_true, decide_eq_true_eq] at h
  rcases h with (h | h) | h
  · exact .inl (.inl h)
  · exact .inl (.inr h)
  · exact .inr h
theorem Rps.rep {K : PySem.W.Frag} {mg : Str → Option Value} {ι Z : List Addr} {H : Hp} {ds : List D} {vs : List V} (h : Rps K mg ι Z H ds vs) : ∀ n : Nat, Rps K mg ι Z H (List.replicate n ds).flatten (List.replicate n vs).flatten
  | 0 => rfl
  | n + 1 => by
    rw [List.replicate_succ, List.replicate_succ, List.flatten_cons, List.flatten_cons]
    exact h.append (Rps.rep h n)
theorem ok_mul : OpR X (binaryOp .Mult) (r2 X.K X.mg T .mul) := by
  intro pins s σ H x y v u Q I rx ry h
  obtain ⟨ι, Z, μ, d, e, r, g, hd, he, ho, q⟩ := h
  simp only [Op.do, mulD] at ho
  split at ho
  · split at ho <;> cases ho
    rename_i hc
    rcases mulOk_ok hc with hc | hc
    · exact op_mul pins s σ H x y v u Q I rx ry ⟨_, _, hd, he, hc, q ι _ H Ext.refl g rfl⟩
    · exact op_mulW pins s σ H x y v u Q I rx ry ⟨_, _, hd, he, hc, q ι _ H Ext.refl g rfl⟩
  · cases ho
    have hd' : x = V.int _ := hd
    have he' : y = V.bl _ := he
    subst hd' he'
    cases ry
    obtain ⟨t', rfl⟩ := rx
    exact PySem.IntBool.mul_int_bool ⟨.int _, H, I.tok _, ⟨_, rfl⟩, q ι _ H Ext.refl g rfl⟩
  · rename_i xs k
    split at ho <;> cases ho
    rename_i hc
    simp only [Bool.and_eq_true, decide_eq_true_eq] at hc
    obtain ⟨a, vs, rfl, h1, h2⟩ := hd
    have hl := h2.length
    refine op_repA pins s σ H _ _ v u Q I rx ry ⟨a, k, vs, rfl, he, h1.sq, hc.1.1, hc.1.2, by omega, fun z => ?_, fun z1 z2 p hp => q ι _ _ (ext_fresh hp) (g.fresh hp) (Rp.newT hp (h2.rep _))⟩
    rcases z with z | z
    · have := h2.nil_iff.mp z
      subst this
      refine q ι _ H Ext.refl g ⟨a, vs, rfl, h1, ?_⟩
      rw [show (List.replicate k.toNat ([] : List D)).flatten = [] by simp]
      exact h2
    · subst z
      refine q ι _ H Ext.refl g ⟨a, vs, rfl, h1, ?_⟩
      rw [show (List.replicate (1 : Int).toNat xs).flatten = xs by simp]
      exact h2
  · rename_i xs k
    split at ho <;> cases ho
    rename_i hc
    simp only [Bool.and_eq_true, decide_eq_true_eq] at hc
    obtain ⟨a, vs, rfl, ⟨h1, h3⟩, h2⟩ := hd
    have hl := h2.length
    exact op_rep pins s σ H _ _ v u Q I rx ry ⟨a, k, vs, rfl, he, h1, hc.1.1, hc.1.2, by rw [← hl]; exact hc.2, fun p hp => q ι _ _ (ext_fresh hp) (g.fresh hp) (Rp.newL g hp (h2.rep _))⟩
  · cases ho
/-! ### order -/
theorem lexLt_eq : ∀ (xs ys : List Int), HT.lexLt xs ys = lexC .lt xs ys
  | [], [] => rfl
  | [], _ :: _ => rfl
  | _ :: _, [] => rfl
  | x :: xs, y :: ys => by
    rw [HT.lexLt_cons, lexC, lexLt_eq xs ys]; rfl
theorem lexAt_eq (c : Cm) (ok : ∀ i j, c.int i j = (match c with | .le => decide (i ≤ j) | .gt => decide (j < i) | .ge => decide (j ≤ i) | .lt => decide (i < j))) : ∀ (xs ys : List Int),
    Ob.lexAt (fun j => decide (xs.getD j 0 = ys.getD j 0)) (fun j => c.int (xs.getD j 0) (ys.getD j 0)) (c.int xs.length ys.length) 0 (min xs.length ys.length) = lexC c xs ys := by
  have gen : ∀ (k : Nat) (xs ys : List Int) (f g : Nat → Bool) (z : Bool) (i : Nat), (∀ j, f (i + j) = decide (xs.getD j 0 = ys.getD j 0)) → (∀ j, g (i + j) = c.int (xs.getD j 0) (ys.getD j 0)) → z = c.int xs.length ys.length → k = min xs.length ys.length →
      Ob.lexAt f g z i k = lexC c xs ys := by
    intro k
    induction k with
    | zero =>
      intro xs ys f g z i hf hg hz hk
      rw [Ob.lexAt_zero, hz]
      cases xs with
      | nil =>
        cases ys with
        | nil => rfl
        | cons y ys => cases c <;> simp [lexC, Cm.int] <;> omega
      | cons x xs =>
        cases ys with
        | nil => cases c <;> simp [lexC, Cm.int] <;> omega
        | cons y ys => simp only [List.length_cons] at hk; omega
    | succ k ih =>
      intro xs ys f g z i hf hg hz hk
      cases xs with
      | nil => simp at hk
      | cons x xs =>
        cases ys with
        | nil => simp at hk
        | cons y ys =>
          rw [Ob.lexAt_succ]
          have h0 := hf 0
          have g0 := hg 0
          simp only [Nat.add_zero, List.getD_cons_zero] at h0 g0
          rw [h0, g0, lexC]
          by_cases e : x = y
          · simp only [e, decide_true, if_true]
            refine ih xs ys f g z (i + 1) (fun j => ?_) (fun j => ?_) ?_ ?_
            · have := hf (j + 1)
              simp only [List.getD_cons_succ] at this
              rw [← this]; congr 1; omega
            · have := hg (j + 1)
              simp only [List.getD_cons_succ] at this
              rw [← this]; congr 1; omega
            · rw [hz]
              cases c <;> simp [Cm.int]
            · simp only [List.length_cons] at hk; omega
          · simp [e]
  intro xs ys
  exact gen _ xs ys _ _ _ 0 (fun j => by rw [Nat.zero_add]) (fun j => by rw [Nat.zero_add]) rfl rfl
theorem at_int {its : List Value} {ns : List Int} (i1 : IntsAre its ns) : ∀ j (h1 : j < its.toArray.size), ∃ t, its.toArray[j] = .int (ns.getD j 0) t :=
  fun j h1 => PyProof.Rows.IntsAre.int_at i1 _ _ (by simp at h1; simp [h1])
def Cm.op : Cm → CmpOp
  | .lt => .Lt
  | .le => .LtE
  | .gt => .Gt
  | .ge => .GtE
theorem cm_tup (c : Cm) (hu : X.A.units < cLine) {pins : List (Addr × Obj)} {s : Shared} {σ : L2.St} {H : Hp} {a b : Addr} {ns ms : List Int} {Q : VK} (I : Inv X pins σ H s) (ha : SqT X.K H a (ns.map V.int)) (hb : SqT X.K H b (ms.map V.int)) (q : Q (.bl (lexC c ns ms)) H) :
    wpAny (model X.prog X.w) X.A (compareOp c.op (.ref a) (.ref b)) (EP X pins σ Q) X.xe s := by
  obtain ⟨its, r1, p1, _⟩ := I.tuple ha
  obtain ⟨its2, r2, p2, _⟩ := I.tuple hb
  have i1 : IntsAre its ns := Vals.ints r1
  have i2 : IntsAre its2 ms := Vals.ints r2
  have e1 : its.toArray.size = ns.length := by rw [List.size_toArray]; exact i1.length
  have e2 : its2.toArray.size = ms.length := by rw [List.size_toArray]; exact i2.length
  have at1 := at_int i1
  have at2 := at_int i2
  have he : ∀ j (h1 : j < its.toArray.size) (h2 : j < its2.toArray.size), SeqAt.EqAt X.A.in1 s its.toArray[j] its2.toArray[j] (decide (ns.getD j 0 = ms.getD j 0)) := fun j h1 h2 => by
    obtain ⟨t, et⟩ := at1 j h1
    obtain ⟨t', et'⟩ := at2 j h2
    rw [et, et']
    have z : (ns.getD j 0 == ms.getD j 0) = decide (ns.getD j 0 = ms.getD j 0) := by
      by_cases q : ns.getD j 0 = ms.getD j 0
      · rw [decide_eq_true q]; exact beq_iff_eq.mpr q
      · rw [decide_eq_false q]; exact beq_eq_false_iff_ne.mpr q
    rw [← z]
    exact SeqAt.EqAt.int_int _ _ _ _
  cases c with
  | lt =>
    rw [← lexLt_eq] at q
    exact op_ltT hu pins s σ H (.ref a) (.ref b) _ _ Q I rfl rfl ⟨a, b, ns, ms, rfl, rfl, ha, hb, q⟩
  | le =>
    have R := Ob.RcOp.tuples_le (A := X.A) (s := s) (e := fun j => decide (ns.getD j 0 = ms.getD j 0)) (r := fun j => Cm.int .le (ns.getD j 0) (ms.getD j 0)) p1 p2 hu he (fun j h1 h2 _ => by
      obtain ⟨t, et⟩ := at1 j h1
      obtain ⟨t', et'⟩ := at2 j h2
      rw [et, et']
      exact Ob.RcOp.le_int _ _ _ _)
    rw [e1, e2] at R
    have el := lexAt_eq .le (fun _ _ => rfl) ns ms
    rw [show Cm.int .le (ns.length : Int) (ms.length : Int) = decide (ns.length ≤ ms.length) by simp [Cm.int]] at el
    rw [el] at R
    have z : wpAny (model X.prog X.w) X.A (compareOp .LtE (.ref a) (.ref b)) (EP X pins σ Q) X.xe s := R X.prog X.w X.xe (EP X pins σ Q) ⟨.bl _, H, I, rfl, q⟩
    exact z
  | gt =>
    have R := Ob.RcOp.tuples_gt (A := X.A) (s := s) (e := fun j => decide (ns.getD j 0 = ms.getD j 0)) (r := fun j => Cm.int .gt (ns.getD j 0) (ms.getD j 0)) p1 p2 hu he (fun j h1 h2 _ => by
      obtain ⟨t, et⟩ := at1 j h1
      obtain ⟨t', et'⟩ := at2 j h2
      rw [et, et']
      exact Ob.RcOp.gt_int _ _ _ _)
    rw [e1, e2] at R
    have el := lexAt_eq .gt (fun _ _ => rfl) ns ms
    rw [show Cm.int .gt (ns.length : Int) (ms.length : Int) = decide (ns.length > ms.length) by simp [Cm.int]] at el
    rw [el] at R
    have z : wpAny (model X.prog X.w) X.A (compareOp .Gt (.ref a) (.ref b)) (EP X pins σ Q) X.xe s := R X.prog X.w X.xe (EP X pins σ Q) ⟨.bl _, H, I, rfl, q⟩
    exact z
  | ge =>
    have R := Ob.RcOp.tuples_ge (A := X.A) (s := s) (e := fun j => decide (ns.getD j 0 = ms.getD j 0)) (r := fun j => Cm.int .ge (ns.getD j 0) (ms.getD j 0)) p1 p2 hu he (fun j h1 h2 _ => by
      obtain ⟨t, et⟩ := at1 j h1
      obtain ⟨t', et'⟩ := at2 j h2
      rw [et, et']
      exact Ob.RcOp.ge_int _ _ _ _)
    rw [e1, e2] at R
    have el := lexAt_eq .ge (fun _ _ => rfl) ns ms
    rw [show Cm.int .ge (ns.length : Int) (ms.length : Int) = decide (ns.length ≥ ms.length) by simp [Cm.int]] at el
    rw [el] at R
    have z : wpAny (model X.prog X.w) X.A (compareOp .GtE (.ref a) (.ref b)) (EP X pins σ Q) X.xe s := R X.prog X.w X.xe (EP X pins σ Q) ⟨.bl _, H, I, rfl, q⟩
    exact z
theorem ok_cm (c : Cm) (hu : X.A.units < cLine) : OpR X (compareOp c.op) (r2 X.K X.mg T (.cm c)) := by
  intro pins s σ H x y v u Q I rx ry h
  obtain ⟨ι, Z, μ, d, e, r, g, hd, he, ho, q⟩ := h
  simp only [Op.do, Option.map_eq_some_iff] at ho
  obtain ⟨b, ho, rfl⟩ := ho
  unfold cmD at ho
  split at ho
  · rename_i i j
    cases ho
    have hq := q ι (.bl (c.int i j)) H Ext.refl g rfl
    cases c with
    | lt => exact op_lt pins s σ H x y v u Q I rx ry ⟨i, j, hd, he, hq⟩
    | le => exact op_le pins s σ H x y v u Q I rx ry ⟨i, j, hd, he, hq⟩
    | gt => exact op_gt pins s σ H x y v u Q I rx ry ⟨i, j, hd, he, hq⟩
    | ge => exact op_ge pins s σ H x y v u Q I rx ry ⟨i, j, hd, he, hq⟩
  · rename_i xs ys
    simp only [Option.bind_eq_some_iff, Option.map_eq_some_iff] at ho
    obtain ⟨ns, e1, ms, e2, rfl⟩ := ho
    have e1 := intsOf_eq e1
    have e2 := intsOf_eq e2
    subst e1 e2
    obtain ⟨a, vs, rfl, h1, h2⟩ := hd
    obtain ⟨b, ws, rfl, h3, h4⟩ := he
    have := h2.ints_inv
    subst this
    have := h4.ints_inv
    subst this
    cases rx
    cases ry
    exact cm_tup c hu I h1.sq h3.sq (q ι _ H Ext.refl g rfl)
  · cases ho
/-! ### in, is -/
theorem tup_dp (hu : X.A.units + 65 < cLine) {pins : List (Addr × Obj)} {s : Shared} {σ : L2.St} {H : Hp} {x y : V} {v u : Value} {d : PyData} {ds : List PyData} {Q : VK} (I : Inv X pins σ H s) (rx : RelV x v) (ry : RelV y u) (hd : Dp X.K H x d) (he : Dp X.K H y (.tuple ds))
    (sd : SeqAt.shaped d = true) (se : SeqAt.shaped (.tuple ds) = true) : (Q (.bl (ds.any fun z => PyData.eqv z d)) H → wpAny (model X.prog X.w) X.A (compareOp .In v u) (EP X pins σ Q) X.xe s) ∧
      (Q (.bl (!ds.any fun z => PyData.eqv z d)) H → wpAny (model X.prog X.w) X.A (compareOp .NotIn v u) (EP X pins σ Q) X.xe s) := by
  obtain ⟨as, r1⟩ := Dp.reads I d x v hd rx
  obtain ⟨bs, r2⟩ := Dp.reads I (.tuple ds) y u he ry
  have hxs : PyData.canLayAll0 ds = true := SeqAt.canLay_of_shaped se
  have hroom : X.A.units + 1 + min (PyData.depthAll ds) d.depth < cLine := by
    have h1 := SeqAt.depth_of_shaped sd
    have h2 : min (PyData.depthAll ds) d.depth ≤ d.depth := Nat.min_le_right _ _
    omega
  exact ⟨fun q => SeqAt.in_tuple_reads r2 r1 hxs (SeqAt.canLay_of_shaped sd) hroom ⟨.bl _, H, I, rfl, q⟩, fun q => SeqAt.notIn_tuple_reads r2 r1 hxs (SeqAt.canLay_of_shaped sd) hroom ⟨.bl _, H, I, rfl, q⟩⟩
theorem in_both (hu : X.A.units + 65 < cLine) {pins : List (Addr × Obj)} {s : Shared} {σ : L2.St} {H : Hp} {x y : V} {v u : Value} {ι Z : List Addr} {μ : List Mo} {d e : D} {r : Bool} (I : Inv X pins σ H s) (rx : RelV x v) (ry : RelV y u)
    (g : RG X.K X.mg T ι Z H μ) (hd : Rp X.K X.mg ι Z H d x) (he : Rp X.K X.mg ι Z H e y) (ho : inD μ d e = some r) {Q : VK} :
    (Q (.bl r) H → wpAny (model X.prog X.w) X.A (compareOp .In v u) (EP X pins σ Q) X.xe s) ∧ (Q (.bl (!r)) H → wpAny (model X.prog X.w) X.A (compareOp .NotIn v u) (EP X pins σ Q) X.xe s) := by
  unfold inD at ho
  split at ho
  · rename_i z ez
    have ez := see_of ez (fun _ z => by cases z)
    subst ez
    split at ho
    · rename_i xx
      cases ho
      exact ⟨fun q => op_in_str pins s σ H x y v u Q I rx ry ⟨xx, z, hd, he, q⟩, fun q => op_notin_str pins s σ H x y v u Q I rx ry ⟨xx, z, hd, he, q⟩⟩
    · cases ho
  · rename_i ds ez
    have ez := see_of ez (fun _ z => by cases z)
    subst ez
    simp only [Option.bind_eq_some_iff] at ho
    obtain ⟨p, e1, qs, e2, ho⟩ := ho
    split at ho <;> cases ho
    rename_i hs
    rw [Bool.and_eq_true] at hs
    obtain ⟨a, vs, rfl, h1, h2⟩ := he
    exact tup_dp hu I rx ry (dp_see g hd e1) (.tup h1.sq (dps_of ds vs qs h2 e2)) hs.1 hs.2
  · rename_i ds ez
    simp only [Option.bind_eq_some_iff] at ho
    obtain ⟨p, e1, qs, e2, ho⟩ := ho
    split at ho <;> cases ho
    rename_i hs
    rw [Bool.and_eq_true] at hs
    obtain ⟨a, vs, rfl, h1, h2⟩ := see_lst g ez he
    exact ⟨fun q => op_inD hu pins s σ H x _ v u Q I rx ry ⟨p, qs, dp_see g hd e1, .lst (SqL.of h1) (dps_of ds vs qs h2 e2), hs.1, hs.2, q⟩,
      fun q => op_notInD hu pins s σ H x _ v u Q I rx ry ⟨p, qs, dp_see g hd e1, .lst (SqL.of h1) (dps_of ds vs qs h2 e2), hs.1, hs.2, q⟩⟩
  · cases ho
theorem ok_in (hu : X.A.units + 65 < cLine) : OpR X (compareOp .In) (r2 X.K X.mg T .in_) := by
  intro pins s σ H x y v u Q I rx ry h
  obtain ⟨ι, Z, μ, d, e, r, g, hd, he, ho, q⟩ := h
  simp only [Op.do, Option.map_eq_some_iff] at ho
  obtain ⟨b, ho, rfl⟩ := ho
  exact (in_both hu I rx ry g hd he ho).1 (q ι _ H Ext.refl g rfl)
theorem ok_nin (hu : X.A.units + 65 < cLine) : OpR X (compareOp .NotIn) (r2 X.K X.mg T .nin) := by
  intro pins s σ H x y v u Q I rx ry h
  obtain ⟨ι, Z, μ, d, e, r, g, hd, he, ho, q⟩ := h
  simp only [Op.do, Option.map_eq_some_iff] at ho
  obtain ⟨b, ho, rfl⟩ := ho
  exact (in_both hu I rx ry g hd he ho).2 (q ι _ H Ext.refl g rfl)
theorem is_shape {K : PySem.W.Frag} {mg : Str → Option Value} {ι Z : List Addr} {H : Hp} {d e : D} {x y : V} {r : Bool} (hd : Rp K mg ι Z H d x) (he : Rp K mg ι Z H e y) (h : isD d e = some r) :
    (∃ a b, x = .bl a ∧ y = .bl b ∧ r = decide (a = b)) ∨ (y = .non ∧ r = decide (x = .non)) := by
  unfold isD at h
  split at h <;> cases h
  · exact .inl ⟨_, _, hd, he, rfl⟩
  · exact .inr ⟨he, by rw [show x = V.non from hd]; rfl⟩
  · exact .inr ⟨he, by rw [show x = V.bl _ from hd]; rfl⟩
  · exact .inr ⟨he, by rw [show x = V.int _ from hd]; rfl⟩
  · exact .inr ⟨he, by rw [show x = V.str _ from hd]; rfl⟩
  · obtain ⟨a, vs, rfl, _⟩ := hd; exact .inr ⟨he, rfl⟩
  · obtain ⟨a, vs, rfl, _⟩ := hd; exact .inr ⟨he, rfl⟩
  · obtain ⟨a, rfl, _⟩ := hd; exact .inr ⟨he, rfl⟩
theorem ok_is : OpR X (compareOp .Is) (r2 X.K X.mg T .is_) := by
  intro pins s σ H x y v u Q I rx ry h
  obtain ⟨ι, Z, μ, d, e, r, g, hd, he, ho, q⟩ := h
  simp only [Op.do, Option.map_eq_some_iff] at ho
  obtain ⟨b, ho, rfl⟩ := ho
  rcases is_shape hd he ho with ⟨a, c, rfl, rfl, rfl⟩ | ⟨rfl, rfl⟩
  · exact op_is_bl pins s σ H _ _ v u Q I rx ry ⟨a, c, rfl, rfl, q ι _ H Ext.refl g rfl⟩
  · exact op_isN pins s σ H x _ v u Q I rx ry ⟨rfl, q ι _ H Ext.refl g rfl⟩
theorem ok_isn : OpR X (compareOp .IsNot) (r2 X.K X.mg T .isn) := by
  intro pins s σ H x y v u Q I rx ry h
  obtain ⟨ι, Z, μ, d, e, r, g, hd, he, ho, q⟩ := h
  simp only [Op.do, Option.map_eq_some_iff] at ho
  obtain ⟨b, ho, rfl⟩ := ho
  rcases is_shape hd he ho with ⟨a, c, rfl, rfl, rfl⟩ | ⟨rfl, rfl⟩
  · exact op_isnot_bl pins s σ H _ _ v u Q I rx ry ⟨a, c, rfl, rfl, q ι _ H Ext.refl g rfl⟩
  · exact op_notN pins s σ H x _ v u Q I rx ry ⟨rfl, q ι _ H Ext.refl g rfl⟩
end
end Mi
set_option Elab.async false
set_option linter.all false
set_option maxRecDepth 100000
set_option maxHeartbeats 4000000
/-! Mx: built-ins, items, slices. -/
namespace Mi
open PySem PySem.Spec PyProof.Rows L2
def rb (K : PySem.W.Frag) (mg : Str → Option Value) (T : List (Addr × Str)) (f : Bi) : List V → Hp → VK → Prop := fun vs H Q => ∃ ι Z μ ds r, RG K mg T ι Z H μ ∧ Rps K mg ι Z H ds vs ∧ f.do μ ds = some r ∧
  ∀ ι' v H', Ext ι [] H ι' H' → RG K mg T ι' Z H' μ → Rp K mg ι' Z H' r v → Q v H'
section
variable {X : Cx} {T : List (Addr × Str)}
def Bi.two : Bi → Bool
  | .min => true
  | .max => true
  | .isi => true
  | .split => true
  | .join => true
  | _ => false
theorem do1 {f : Bi} {μ : List Mo} {ds : List D} {r : D} (hf : f.two = false) (h : f.do μ ds = some r) : ∃ a, ds = [a] := by
  match ds, h with
  | [], h => simp [Bi.do] at h
  | [a], _ => exact ⟨a, rfl⟩
  | [a, b], h => cases f <;> first | (cases hf; done) | (simp [Bi.do] at h; done)
  | _ :: _ :: _ :: _, h => simp [Bi.do] at h
theorem do2 {f : Bi} {μ : List Mo} {ds : List D} {r : D} (hf : f.two = true) (h : f.do μ ds = some r) : ∃ a b, ds = [a, b] := by
  match ds, h with
  | [], h => simp [Bi.do] at h
  | [a], h => cases f <;> first | (cases hf; done) | (simp [Bi.do] at h; done)
  | [a, b], h => exact ⟨a, b, rfl⟩
  | _ :: _ :: _ :: _, h => simp [Bi.do] at h
theorem Rps.two {K : PySem.W.Frag} {mg : Str → Option Value} {ι Z : List Addr} {H : Hp} {d e : D} {vs : List V} (h : Rps K mg ι Z H [d, e] vs) : ∃ v w, vs = [v, w] ∧ Rp K mg ι Z H d v ∧ Rp K mg ι Z H e w := by
  obtain ⟨v, vs', rfl, h1, h2⟩ := h
  obtain ⟨w, rfl, h3⟩ := Rps.one h2
  exact ⟨v, w, rfl, h1, h3⟩
theorem cb_len : CallR X (.builtin "len") (rb X.K X.mg T .len) := by
  intro pins s σ H xs us Q I r h
  obtain ⟨ι, Z, μ, ds, o, g, hd, ho, q⟩ := h
  obtain ⟨a, rfl⟩ := do1 rfl ho
  obtain ⟨v, rfl, hv⟩ := hd.one
  simp only [Bi.do, Option.map_eq_some_iff] at ho
  obtain ⟨n, ho, rfl⟩ := ho
  have hq := q ι (.int n) H Ext.refl g rfl
  unfold lenD at ho
  split at ho
  · cases ho
    obtain ⟨a, vs, rfl, h1, h2⟩ := hv
    rw [h2.length] at hq
    exact call_len pins s σ H _ us Q I r ⟨_, _, rfl, .inr ⟨_, h1.sq, rfl⟩, hq⟩
  · cases ho
    obtain ⟨a, vs, rfl, ⟨h1, _⟩, h2⟩ := hv
    rw [h2.length] at hq
    exact call_len pins s σ H _ us Q I r ⟨_, _, rfl, .inl ⟨_, SqL.of h1, rfl⟩, hq⟩
  · cases ho
    obtain ⟨a, rfl, h1⟩ := hv
    rename_i ns
    rw [← List.length_map (as := ns) V.int] at hq
    exact call_len pins s σ H _ us Q I r ⟨_, _, rfl, .inl ⟨_, h1.sq, rfl⟩, hq⟩
  · split at ho <;> cases ho
    rename_i hz
    have hv' : v = V.str _ := hv
    subst hv'
    exact call_len pins s σ H _ us Q I r ⟨_, _, rfl, ⟨hz, rfl⟩, hq⟩
  · obtain ⟨a, rfl, h1⟩ := hv
    split at ho
    · cases ho
      rename_i e
      obtain ⟨b, h2, vs, h3, h4⟩ := g.mem _ _ e
      rw [h1] at h2; cases h2
      rw [h4.length] at hq
      exact call_len pins s σ H _ us Q I r ⟨_, _, rfl, .inl ⟨_, SqL.of h3, rfl⟩, hq⟩
    · cases ho
      rename_i kvs e
      obtain ⟨b, h2, vs, h3, h4⟩ := g.mem _ _ e
      rw [h1] at h2; cases h2
      have hl : ((kvs.map fun p => (Sum.inr p.1 : Key)).zip vs).length = kvs.length := by
        have := h4.length
        simp at this ⊢; omega
      obtain ⟨w, rfl, rw'⟩ := vals1 r
      cases rw'
      refine d_len I (.inl h3) fun t s' I' => ⟨.int kvs.length, H, I', ⟨t, ?_⟩, hq⟩
      rw [hl]
    · cases ho
  · cases ho
theorem cb_abs : CallR X (.builtin "abs") (rb X.K X.mg T .abs) := by
  intro pins s σ H xs us Q I r h
  obtain ⟨ι, Z, μ, ds, o, g, hd, ho, q⟩ := h
  obtain ⟨a, rfl⟩ := do1 rfl ho
  obtain ⟨v, rfl, hv⟩ := hd.one
  simp only [Bi.do] at ho
  split at ho <;> cases ho
  have hv' : v = V.int _ := hv
  subst hv'
  exact call_abs pins s σ H _ us Q I r ⟨_, rfl, q ι _ H Ext.refl g rfl⟩
theorem cb_int : CallR X (.type "int") (rb X.K X.mg T .int) := by
  intro pins s σ H xs us Q I r h
  obtain ⟨ι, Z, μ, ds, o, g, hd, ho, q⟩ := h
  obtain ⟨a, rfl⟩ := do1 rfl ho
  obtain ⟨v, rfl, hv⟩ := hd.one
  simp only [Bi.do] at ho
  split at ho
  · cases ho
    have hv' : v = V.int _ := hv
    subst hv'
    exact call_int1 pins s σ H _ us Q I r (.inl ⟨_, rfl, q ι _ H Ext.refl g rfl⟩)
  · cases ho
    have hv' : v = V.bl _ := hv
    subst hv'
    exact call_int1 pins s σ H _ us Q I r (.inr ⟨_, rfl, q ι _ H Ext.refl g rfl⟩)
  · split at ho
    · simp only [Option.map_eq_some_iff] at ho
      obtain ⟨n, hn, rfl⟩ := ho
      have hv' : v = V.str _ := hv
      subst hv'
      exact call_int_str pins s σ H _ us Q I r ⟨_, n, rfl, hn, by assumption, q ι _ H Ext.refl g rfl⟩
    · cases ho
  · cases ho
theorem cb_bool : CallR X (.type "bool") (rb X.K X.mg T .bool) := by
  intro pins s σ H xs us Q I r h
  obtain ⟨ι, Z, μ, ds, o, g, hd, ho, q⟩ := h
  obtain ⟨a, rfl⟩ := do1 rfl ho
  obtain ⟨v, rfl, hv⟩ := hd.one
  simp only [Bi.do] at ho
  split at ho <;> cases ho
  have hv' : v = V.bl _ := hv
  subst hv'
  exact call_bool1 pins s σ H _ us Q I r (.inr ⟨_, rfl, q ι _ H Ext.refl g rfl⟩)
theorem cb_str : CallR X (.type "str") (rb X.K X.mg T .str) := by
  intro pins s σ H xs us Q I r h
  obtain ⟨ι, Z, μ, ds, o, g, hd, ho, q⟩ := h
  obtain ⟨a, rfl⟩ := do1 rfl ho
  obtain ⟨v, rfl, hv⟩ := hd.one
  simp only [Bi.do] at ho
  split at ho
  · split at ho <;> cases ho
    have hv' : v = V.int _ := hv
    subst hv'
    exact call_str_int pins s σ H _ us Q I r ⟨_, rfl, by assumption, q ι _ H Ext.refl g rfl⟩
  · cases ho
    have hv' : v = V.str _ := hv
    subst hv'
    exact SkE.call_str_str pins s σ H _ us Q I r ⟨_, rfl, q ι _ H Ext.refl g rfl⟩
  · cases ho
    have hv' : v = V.bl _ := hv
    subst hv'
    obtain ⟨u, rfl, hu⟩ := vals1 r
    cases hu
    exact PySem.P.str_of_bool ⟨.str _, H, I.tok _, ⟨_, rfl⟩, by simpa using q ι _ H Ext.refl g rfl⟩
  · cases ho
theorem cb_sum (hc : X.calm = true) : CallR X (.builtin "sum") (rb X.K X.mg T .sum) := by
  intro pins s σ H xs us Q I r h
  obtain ⟨ι, Z, μ, ds, o, g, hd, ho, q⟩ := h
  obtain ⟨a, rfl⟩ := do1 rfl ho
  obtain ⟨v, rfl, hv⟩ := hd.one
  simp only [Bi.do] at ho
  split at ho
  · rename_i xs e
    obtain ⟨a, vs, rfl, h1, h2⟩ := see_lst g e hv
    simp only [Option.map_eq_some_iff] at ho
    obtain ⟨ns, e1, rfl⟩ := ho
    have := intsOf_eq e1
    subst this
    have := h2.ints_inv
    subst this
    exact cr_sum hc pins s σ H _ us Q I r ⟨a, ns, rfl, SqL.of h1, q ι _ H Ext.refl g rfl⟩
  · cases ho
theorem cb_list : CallR X (.type "list") (rb X.K X.mg T .list) := by
  intro pins s σ H xs us Q I r h
  obtain ⟨ι, Z, μ, ds, o, g, hd, ho, q⟩ := h
  obtain ⟨a, rfl⟩ := do1 rfl ho
  obtain ⟨v, rfl, hv⟩ := hd.one
  simp only [Bi.do] at ho
  split at ho
  · rename_i xs e
    obtain ⟨a, vs, rfl, h1, h2⟩ := see_lst g e hv
    cases ho
    exact call_list_of pins s σ H _ us Q I r ⟨a, vs, rfl, .inl (SqL.of h1), fun l hl => q ι _ _ (ext_fresh hl) (g.fresh hl) (Rp.newL g hl h2)⟩
  · rename_i xs e
    obtain ⟨a, vs, rfl, h1, h2⟩ := see_seq g e hv
    cases ho
    exact call_list_of pins s σ H _ us Q I r ⟨a, vs, rfl, .inr h1.sq, fun l hl => q ι _ _ (ext_fresh hl) (g.fresh hl) (Rp.newL g hl h2)⟩
  · cases ho
theorem cb_tuple : CallR X (.type "tuple") (rb X.K X.mg T .tuple) := by
  intro pins s σ H xs us Q I r h
  obtain ⟨ι, Z, μ, ds, o, g, hd, ho, q⟩ := h
  obtain ⟨a, rfl⟩ := do1 rfl ho
  obtain ⟨v, rfl, hv⟩ := hd.one
  simp only [Bi.do] at ho
  split at ho
  · rename_i xs e
    obtain ⟨a, vs, rfl, h1, h2⟩ := see_lst g e hv
    cases ho
    exact call_tuple_of pins s σ H _ us Q I r ⟨a, vs, rfl, .inl ⟨SqL.of h1, fun l hl => q ι _ _ (ext_fresh hl) (g.fresh hl) (Rp.newT hl h2)⟩⟩
  · rename_i xs e
    obtain ⟨a, vs, rfl, h1, h2⟩ := see_seq g e hv
    cases ho
    exact call_tuple_of pins s σ H _ us Q I r ⟨a, vs, rfl, .inr ⟨h1.sq, q ι _ _ Ext.refl g ⟨a, vs, rfl, h1, h2⟩⟩⟩
  · cases ho
theorem cb_min (hc : X.calm = true) : CallR X (.builtin "min") (rb X.K X.mg T .min) := by
  intro pins s σ H xs us Q I r h
  obtain ⟨ι, Z, μ, ds, o, g, hd, ho, q⟩ := h
  obtain ⟨a, b, rfl⟩ := do2 rfl ho
  obtain ⟨v, w, rfl, hv, hw⟩ := hd.two
  simp only [Bi.do] at ho
  split at ho <;> cases ho
  have hv' : v = V.int _ := hv
  have hw' : w = V.int _ := hw
  subst hv' hw'
  exact call_min2 hc pins s σ H _ us Q I r ⟨_, _, rfl, q ι _ H Ext.refl g rfl⟩
theorem cb_max (hc : X.calm = true) : CallR X (.builtin "max") (rb X.K X.mg T .max) := by
  intro pins s σ H xs us Q I r h
  obtain ⟨ι, Z, μ, ds, o, g, hd, ho, q⟩ := h
  obtain ⟨a, b, rfl⟩ := do2 rfl ho
  obtain ⟨v, w, rfl, hv, hw⟩ := hd.two
  simp only [Bi.do] at ho
  split at ho <;> cases ho
  have hv' : v = V.int _ := hv
  have hw' : w = V.int _ := hw
  subst hv' hw'
  exact call_max2 hc pins s σ H _ us Q I r ⟨_, _, rfl, q ι _ H Ext.refl g rfl⟩
theorem ty_of {ι Z : List Addr} {H : Hp} {μ : List Mo} {d : D} {v : V} {t : String} (g : RG X.K X.mg T ι Z H μ) (h : Rp X.K X.mg ι Z H d v) (e : tyD μ d = some t) : TyX X.K H v (.type t) := by
  unfold tyD at e
  split at e
  · cases e; rw [show v = V.non from h]; exact .base .non
  · cases e; rw [show v = V.bl _ from h]; exact .base (.bl _)
  · cases e; rw [show v = V.int _ from h]; exact .base (.int _)
  · cases e; rw [show v = V.str _ from h]; exact .base (.str _)
  · cases e
    obtain ⟨a, vs, rfl, h1, h2⟩ := h
    rcases h1 with h1 | ⟨o, its, n, h1, h3, _⟩
    · exact .base (.tup h1)
    · exact .kTuple h1 h3
  · cases e
    obtain ⟨a, vs, rfl, ⟨h1, _⟩, h2⟩ := h
    exact .base (.lst h1)
  · obtain ⟨a, rfl, h1⟩ := h
    split at e
    · cases e
      rename_i q
      obtain ⟨b, h2, vs, h3, h4⟩ := g.mem _ _ q
      rw [h1] at h2; cases h2
      exact .base (.lst h3)
    · cases e
      rename_i q
      obtain ⟨b, h2, vs, h3, h4⟩ := g.mem _ _ q
      rw [h1] at h2; cases h2
      exact .base (.dK h3)
    · cases e
  · cases e
theorem cb_isi : CallR X (.builtin "isinstance") (rb X.K X.mg T .isi) := by
  intro pins s σ H xs us Q I r h
  obtain ⟨ι, Z, μ, ds, o, g, hd, ho, q⟩ := h
  obtain ⟨a, b, rfl⟩ := do2 rfl ho
  obtain ⟨v, w, rfl, hv, hw⟩ := hd.two
  simp only [Bi.do, Option.map_eq_some_iff, isiD] at ho
  obtain ⟨b, ho, rfl⟩ := ho
  split at ho
  · simp only [Option.bind_eq_some_iff] at ho
    obtain ⟨t, e1, e2⟩ := ho
    have hw' : w = V.ty _ := hw
    subst hw'
    exact call_isi pins s σ H _ us Q I r ⟨_, _, _, _, _, rfl, .ty _, ty_of g hv e1, kit_ty e2, q ι _ H Ext.refl g rfl⟩
  · cases ho
/-! ### methods of texts -/
theorem Rps.strs {K : PySem.W.Frag} {mg : Str → Option Value} {ι Z : List Addr} {H : Hp} : ∀ (ys : List Str), Rps K mg ι Z H (ys.map .str) (ys.map V.str)
  | [] => rfl
  | y :: ys => ⟨_, _, rfl, rfl, Rps.strs ys⟩
theorem Rps.strs_inv {K : PySem.W.Frag} {mg : Str → Option Value} {ι Z : List Addr} {H : Hp} : ∀ {ds : List D} {ys : List Str} {vs : List V}, strsOf ds = some ys → Rps K mg ι Z H ds vs → vs = ys.map V.str
  | [], ys, vs, e, h => by
    simp only [strsOf, Option.some.injEq] at e
    subst e
    exact h
  | .str x :: ds, ys, vs, e, h => by
    simp only [strsOf, Option.map_eq_some_iff] at e
    obtain ⟨zs, e1, rfl⟩ := e
    obtain ⟨v, vs', rfl, h1, h2⟩ := h
    rw [Rps.strs_inv e1 h2, show v = V.str x from h1]; rfl
  | .non :: _, _, _, e, _ => by cases e
  | .bl _ :: _, _, _, e, _ => by cases e
  | .int _ :: _, _, _, e, _ => by cases e
  | .ty _ :: _, _, _, e, _ => by cases e
  | .glo _ :: _, _, _, e, _ => by cases e
  | .tup _ :: _, _, _, e, _ => by cases e
  | .lst _ :: _, _, _, e, _ => by cases e
  | .obj _ :: _, _, _, e, _ => by cases e
  | .scr _ :: _, _, _, e, _ => by cases e
def rM (K : PySem.W.Frag) (mg : Str → Option Value) (T : List (Addr × Str)) (f : Bi) : V → List V → Hp → VK → Prop := fun x xs H Q => rb K mg T f (x :: xs) H Q
theorem mb_upper : MtR X "str.upper" (rM X.K X.mg T .upper) := by
  intro pins s σ H x xs v us Q I rx rs h
  obtain ⟨ι, Z, μ, ds, o, g, hd, ho, q⟩ := h
  obtain ⟨a, rfl⟩ := do1 rfl ho
  obtain ⟨v1, e1, hv⟩ := hd.one
  cases e1
  simp only [Bi.do] at ho
  split at ho
  · split at ho
    · cases ho
      have hv' : x = V.str _ := hv
      subst hv'
      exact mt_upper pins s σ H _ _ v us Q I rx rs ⟨_, rfl, rfl, by assumption, q ι _ H Ext.refl g rfl⟩
    · cases ho
  · cases ho
theorem mb_split : MtR X "str.split" (rM X.K X.mg T .split) := by
  intro pins s σ H x xs v us Q I rx rs h
  obtain ⟨ι, Z, μ, ds, o, g, hd, ho, q⟩ := h
  obtain ⟨a, b, rfl⟩ := do2 rfl ho
  obtain ⟨v1, w1, e1, hv, hw⟩ := hd.two
  cases e1
  simp only [Bi.do] at ho
  split at ho
  · rename_i x1 y1
    split at ho
    · rename_i hz
      cases ho
      simp only [Bool.and_eq_true, Bool.not_eq_true', decide_eq_true_eq] at hz
      have hv' : x = V.str _ := hv
      have hw' : w1 = V.str _ := hw
      subst hv' hw'
      exact mt_split pins s σ H _ _ v us Q I rx rs ⟨_, _, rfl, rfl, hz.1, hz.2, fun p hp => q ι _ _ (ext_fresh hp) (g.fresh hp) (Rp.newL g hp (Rps.strs _))⟩
    · cases ho
  · cases ho
theorem mb_join : MtR X "str.join" (rM X.K X.mg T .join) := by
  intro pins s σ H x xs v us Q I rx rs h
  obtain ⟨ι, Z, μ, ds, o, g, hd, ho, q⟩ := h
  obtain ⟨a, b, rfl⟩ := do2 rfl ho
  obtain ⟨v1, w1, e1, hv, hw⟩ := hd.two
  cases e1
  simp only [Bi.do] at ho
  split at ho
  · rename_i x1 ds1 e2
    simp only [Option.bind_eq_some_iff] at ho
    obtain ⟨ys, e3, ho⟩ := ho
    split at ho
    · rename_i hz
      cases ho
      have hv' : x = V.str _ := hv
      subst hv'
      obtain ⟨p, vs, rfl, h1, h2⟩ := see_lst g e2 hw
      have := Rps.strs_inv e3 h2
      subst this
      exact mt_join pins s σ H _ _ v us Q I rx rs ⟨_, _, ys, rfl, rfl, .inl (SqL.of h1), hz, q ι _ H Ext.refl g rfl⟩
    · cases ho
  · rename_i x1 ds1 e2
    simp only [Option.bind_eq_some_iff] at ho
    obtain ⟨ys, e3, ho⟩ := ho
    split at ho
    · rename_i hz
      cases ho
      have hv' : x = V.str _ := hv
      subst hv'
      obtain ⟨p, vs, rfl, h1, h2⟩ := see_seq g e2 hw
      have := Rps.strs_inv e3 h2
      subst this
      exact mt_join pins s σ H _ _ v us Q I rx rs ⟨_, _, ys, rfl, rfl, .inr h1.sq, hz, q ι _ H Ext.refl g rfl⟩
    · cases ho
  · cases ho
/-! ### items, slices -/
def rix (K : PySem.W.Frag) (mg : Str → Option Value) (T : List (Addr × Str)) : R2 := fun x y H Q => ∃ ι Z μ d e r, RG K mg T ι Z H μ ∧ Rp K mg ι Z H d x ∧ Rp K mg ι Z H e y ∧ ixD μ d e = some r ∧
  ∀ ι' v H', Ext ι [] H ι' H' → RG K mg T ι' Z H' μ → Rp K mg ι' Z H' r v → Q v H'
theorem Rps.atI {K : PySem.W.Frag} {mg : Str → Option Value} {ι Z : List Addr} {H : Hp} {ds : List D} {vs : List V} {i : Int} {d : D} (h : Rps K mg ι Z H ds vs) (e : L2.atI ds i = some d) : ∃ v, L2.atI vs i = some v ∧ Rp K mg ι Z H d v := by
  unfold L2.atI at e ⊢
  rw [Option.bind_eq_some_iff] at e
  obtain ⟨j, e1, e2⟩ := e
  obtain ⟨v, e3, e4⟩ := h.get e2
  exact ⟨v, by rw [← h.length, e1]; exact e3, e4⟩
abbrev kS (p : Str × D) : Key := Sum.inr p.1
theorem dct_get {K : PySem.W.Frag} {mg : Str → Option Value} {ι Z : List Addr} {H : Hp} : ∀ {kvs : List (Str × D)} {vs : List V} {z : Str} {r : D}, Rps K mg ι Z H (kvs.map (·.2)) vs → kvs.lookup z = some r → ∃ v, L2.valV ((kvs.map kS).zip vs) (Sum.inr z : Key) = some v ∧ Rp K mg ι Z H r v
  | [], _, _, _, _, e => by cases e
  | (k, d) :: kvs, _, z, r, h, e => by
    obtain ⟨v, vs', rfl, h1, h2⟩ := h
    have e : (match z == k with | true => some d | false => kvs.lookup z) = some r := e
    cases q : (z == k) with
    | true =>
      rw [q] at e
      cases e
      have := beq_iff_eq.mp q
      subst this
      exact ⟨v, L2.valV_pos rfl, h1⟩
    | false =>
      rw [q] at e
      obtain ⟨w, h3, h4⟩ := dct_get h2 e
      refine ⟨w, ?_, h4⟩
      have nk : ¬ ((Sum.inr k : Key) = Sum.inr z) := fun y => by cases y; simp at q
      unfold L2.valV at h3 ⊢
      rw [List.map_cons, List.zip_cons_cons, List.find?_cons_of_neg (by simpa using nk)]
      exact h3
theorem ix_ok (hu : X.A.units + 1 < cLine) : IxR X (rix X.K X.mg T) := by
  intro value slice pins s σ H x y v u Q I rx ry h hs
  obtain ⟨ι, Z, μ, d, e, r, g, hd, he, ho, q⟩ := h
  unfold ixD at ho
  split at ho
  · rename_i xs j e1
    obtain ⟨a, vs, rfl, h1, h2⟩ := see_seq g e1 hd
    obtain ⟨w, h3, h4⟩ := h2.atI ho
    exact ix_tup value slice pins s σ H _ _ v u Q I rx ry ⟨a, vs, j, w, rfl, he, h1.sq, h3, q ι _ H Ext.refl g h4⟩ hs
  · rename_i xs j e1
    obtain ⟨a, vs, rfl, h1, h2⟩ := see_lst g e1 hd
    obtain ⟨w, h3, h4⟩ := h2.atI ho
    exact ix_list value slice pins s σ H _ _ v u Q I rx ry ⟨a, vs, j, w, rfl, he, SqL.of h1, h3, q ι _ H Ext.refl g h4⟩ hs
  · rename_i ns j e1
    have e1 := see_of e1 (fun _ z => by cases z)
    subst e1
    obtain ⟨a, rfl, h1⟩ := hd
    simp only [Option.map_eq_some_iff] at ho
    obtain ⟨n, e2, rfl⟩ := ho
    refine ix_list value slice pins s σ H _ _ v u Q I rx ry ⟨a, _, j, .int n, rfl, he, h1.sq, ?_, q ι _ H Ext.refl g rfl⟩ hs
    unfold L2.atI at e2 ⊢
    rw [Option.bind_eq_some_iff] at e2
    obtain ⟨k, e3, e4⟩ := e2
    rw [List.length_map, e3]
    simp [e4]
  · rename_i z j e1
    have e1 := see_of e1 (fun _ z => by cases z)
    subst e1
    split at ho
    · rename_i hz
      simp only [Option.map_eq_some_iff] at ho
      obtain ⟨c, e2, rfl⟩ := ho
      exact ix_str value slice pins s σ H _ _ v u Q I rx ry ⟨z, j, c, hd, he, hz, e2, q ι _ H Ext.refl g rfl⟩ hs
    · cases ho
  · rename_i n z e1
    have e1 := see_of e1 (fun _ z => by cases z)
    subst e1
    split at ho
    · rename_i kvs hm
      obtain ⟨a, rfl, ha⟩ := hd
      obtain ⟨b, hb, vs, hv, rv⟩ := g.mem n _ hm
      rw [ha] at hb
      cases hb
      obtain ⟨w, h3, h4⟩ := dct_get rv ho
      have he' : y = V.str z := he
      subst he'
      obtain rfl : v = Value.ref a := rx
      have gg : L2.DGet H a (.str z) (some w) := by
        have := L2.DGet.k (k := (Sum.inr z : Key)) hv
        rw [h3] at this
        exact this
      exact tail_any (dict_typeIs I gg) PySem.F.slot_dict_getitem.lookup (d_getItem hu I gg ry fun w' s' I' rw' => ⟨w, H, I', rw', q ι _ H Ext.refl g h4⟩) hs
    · cases ho
  · cases ho
def rsl (K : PySem.W.Frag) (mg : Str → Option Value) (T : List (Addr × Str)) : V → Option Int → Option Int → Hp → VK → Prop := fun x lo hi H Q => ∃ ι Z μ d r, RG K mg T ι Z H μ ∧ Rp K mg ι Z H d x ∧ slD μ d lo hi = some r ∧
  ∀ ι' v H', Ext ι [] H ι' H' → RG K mg T ι' Z H' μ → Rp K mg ι' Z H' r v → Q v H'
theorem Rps.cut {K : PySem.W.Frag} {mg : Str → Option Value} {ι Z : List Addr} {H : Hp} {ds : List D} {vs : List V} (h : Rps K mg ι Z H ds vs) (lo hi : Option Int) : Rps K mg ι Z H (cutL ds lo hi) (cutV vs lo hi) := by
  unfold cutL cutV
  rw [h.length]
  exact (h.drop _).take _
theorem sl_ok : SlR X (rsl X.K X.mg T) := by
  intro pins s σ H x v vl vu lo hi sl Q I rx hs pl pu h
  obtain ⟨ι, Z, μ, d, r, g, hd, ho, q⟩ := h
  unfold slD at ho
  split at ho
  · rename_i xs e1
    obtain ⟨a, vs, rfl, h1, h2⟩ := see_seq g e1 hd
    cases ho
    refine sl_tupA pins s σ H _ v vl vu lo hi sl Q I rx hs pl pu ⟨a, vs, rfl, h1.sq, fun hw => ?_, fun _ p hp => q ι _ _ (ext_fresh hp) (g.fresh hp) (Rp.newT hp (h2.cut lo hi))⟩
    refine q ι _ H Ext.refl g ⟨a, vs, rfl, h1, ?_⟩
    have : cutL xs lo hi = xs := by
      unfold cutL
      rw [h2.length, hw.1, hw.2]
      simp [← h2.length]
    rw [this]; exact h2
  · rename_i xs e1
    obtain ⟨a, vs, rfl, h1, h2⟩ := see_lst g e1 hd
    cases ho
    exact sl_list pins s σ H _ v vl vu lo hi sl Q I rx hs pl pu ⟨a, vs, rfl, SqL.of h1, fun p hp => q ι _ _ (ext_fresh hp) (g.fresh hp) (Rp.newL g hp (h2.cut lo hi))⟩
  · rename_i z e1
    have e1 := see_of e1 (fun _ z => by cases z)
    subst e1
    split at ho <;> cases ho
    rename_i hz
    exact sl_str pins s σ H _ v vl vu lo hi sl Q I rx hs pl pu ⟨z, hd, hz, q ι _ H Ext.refl g rfl⟩
  · cases ho
end
end Mi
set_option Elab.async false
set_option linter.all false
set_option maxRecDepth 100000
set_option maxHeartbeats 4000000
/-! Mr: readings by the small language; how its terms are read off the text. -/
namespace Mi
open PySem PySem.Spec PyProof.Rows L2
/-! ### the slots -/
def SlOk (K : PySem.W.Frag) (mg : Str → Option Value) (ι Z Zf : List Addr) (H : Hp) : Sl → Option (Option V) → Prop
  | .un, _ => True
  | .d x, s => ∃ v, s = some (some v) ∧ Rp K mg ι Z H x v
  | .lin xs, s => ∃ a vs, s = some (some (.ref a)) ∧ a ∈ Zf ∧ H a = some (.lst vs) ∧ Rps K mg ι Z H xs vs
structure SR (K : PySem.W.Frag) (mg : Str → Option Value) (ι Z Zf : List Addr) (H : Hp) (δ : List Sl) (σ : L2.St) : Prop where
  len : δ.length = σ.length
  ok : ∀ (i : Nat) (s : Sl), δ[i]? = some s → SlOk K mg ι Z Zf H s σ[i]?
  apart : ∀ (i j : Nat) (xs ys : List D) (a : Addr), δ[i]? = some (.lin xs) → δ[j]? = some (.lin ys) → σ[i]? = some (some (V.ref a)) → σ[j]? = some (some (V.ref a)) → i = j
  sub : ∀ z ∈ Zf, z ∈ Z
section
variable {K : PySem.W.Frag} {mg : Str → Option Value} {T : List (Addr × Str)} {ι Z Zf ι' Z' : List Addr} {H H' : Hp} {μ μ' : List Mo} {δ : List Sl} {σ : L2.St}
/-- behind an expression: what the slots hold stands -/
theorem SR.ext (g : RG K mg T ι Z H μ) (s : SR K mg ι Z Zf H δ σ) (e : Ext ι [] H ι' H') : SR K mg ι' Z Zf H' δ σ := by
  refine ⟨s.len, fun i x hx => ?_, s.apart, s.sub⟩
  have h := s.ok i x hx
  cases x with
  | un => trivial
  | d x => obtain ⟨v, h1, h2⟩ := h; exact ⟨v, h1, h2.ext0 e⟩
  | lin xs =>
    obtain ⟨a, vs, h1, h2, h3, h4⟩ := h
    refine ⟨a, vs, h1, h2, e.keep a _ h3 (g.zl a (s.sub a h2)).2 (by simp) (fun _ z => by cases z), h4.ext0 e⟩
theorem SR.get (s : SR K mg ι Z Zf H δ σ) {i : Nat} {x : D} (h : δ[i]? = some (.d x)) : ∃ v, σ[i]? = some (some v) ∧ Rp K mg ι Z H x v := s.ok i _ h
theorem SR.set (s : SR K mg ι Z Zf H δ σ) {i : Nat} {x : D} {v : V} (h : Rp K mg ι Z H x v) : SR K mg ι Z Zf H (δ.set i (.d x)) (σ.set i (some v)) := by
  refine ⟨by simp [s.len], fun j y hy => ?_, fun j k xs ys a h1 h2 h3 h4 => ?_, s.sub⟩
  · by_cases e : i = j
    · subst e
      have hl : i < δ.length := by
        have := (List.getElem?_eq_some_iff.mp hy).1
        simpa using this
      rw [List.getElem?_set_self hl] at hy
      cases hy
      exact ⟨v, by rw [List.getElem?_set_self (by rw [← s.len]; exact hl)], h⟩
    · rw [List.getElem?_set_ne e] at hy ⊢
      exact s.ok j y hy
  · have hj : i ≠ j := fun e => by
      subst e
      have hl : i < δ.length := by
        have := (List.getElem?_eq_some_iff.mp h1).1
        simpa using this
      rw [List.getElem?_set_self hl] at h1
      cases h1
    have hk : i ≠ k := fun e => by
      subst e
      have hl : i < δ.length := by
        have := (List.getElem?_eq_some_iff.mp h2).1
        simpa using this
      rw [List.getElem?_set_self hl] at h2
      cases h2
    rw [List.getElem?_set_ne hj] at h1 h3
    rw [List.getElem?_set_ne hk] at h2 h4
    exact s.apart j k xs ys a h1 h2 h3 h4
theorem SR.wipe1 (s : SR K mg ι Z Zf H δ σ) (i : Nat) : SR K mg ι Z Zf H (δ.set i .un) (σ.set i none) := by
  refine ⟨by simp [s.len], fun j y hy => ?_, fun j k xs ys a h1 h2 h3 h4 => ?_, s.sub⟩
  · by_cases e : i = j
    · subst e
      have hl : i < δ.length := by
        have := (List.getElem?_eq_some_iff.mp hy).1
        simpa using this
      rw [List.getElem?_set_self hl] at hy
      cases hy
      trivial
    · rw [List.getElem?_set_ne e] at hy ⊢
      exact s.ok j y hy
  · have hj : i ≠ j := fun e => by
      subst e
      have hl : i < δ.length := by
        have := (List.getElem?_eq_some_iff.mp h1).1
        simpa using this
      rw [List.getElem?_set_self hl] at h1
      cases h1
    have hk : i ≠ k := fun e => by
      subst e
      have hl : i < δ.length := by
        have := (List.getElem?_eq_some_iff.mp h2).1
        simpa using this
      rw [List.getElem?_set_self hl] at h2
      cases h2
    rw [List.getElem?_set_ne hj] at h1 h3
    rw [List.getElem?_set_ne hk] at h2 h4
    exact s.apart j k xs ys a h1 h2 h3 h4
theorem SR.wipe (s : SR K mg ι Z Zf H δ σ) : ∀ vs : List Nat, SR K mg ι Z Zf H (wipeS δ vs) (wipe σ vs)
  | [] => s
  | v :: vs => (SR.wipe s vs).wipe1 v
end
/-! ### what comes of a term -/
/-- an exception as it flies: its class, its own dict -/
def XR (mg : Str → Option Value) : Ex → Value → Option Addr → Hp → Prop := fun e cv dx _ => match e with
  | (c, none) => (∃ C, mg c = some (.ref C) ∧ cv = .ref C) ∧ dx = none
  | _ => False
def post {α β : Type} (K : PySem.W.Frag) (mg : Str → Option Value) (T : List (Addr × Str)) (rel : List Addr → List Addr → Hp → α → β → Prop) (ι Z : List Addr) (H : Hp) (r : RM α) (Q : β → Hp → Prop) (W : Value → Option Addr → Hp → Prop) : Prop :=
  match r with
  | none => False
  | some (.ok a, μ) => ∀ ι' b H', Ext ι [] H ι' H' → RG K mg T ι' Z H' μ → rel ι' Z H' a b → Q b H'
  | some (.error e, μ) => ∀ ι' H' cv dx, Ext ι [] H ι' H' → RG K mg T ι' Z H' μ → XR mg e cv dx H' → W cv dx H'
section
variable {α β γ κ : Type} {K : PySem.W.Frag} {mg : Str → Option Value} {T : List (Addr × Str)} {rel : List Addr → List Addr → Hp → α → β → Prop} {rel' : List Addr → List Addr → Hp → γ → κ → Prop} {ι Z ι1 : List Addr} {H H1 : Hp} {Q : β → Hp → Prop} {Q' : κ → Hp → Prop} {W : Value → Option Addr → Hp → Prop}
theorem post.mono {r : RM α} (h : post K mg T rel ι Z H r Q W) (e : Ext ι [] H ι1 H1) : post K mg T rel ι1 Z H1 r Q W := by
  match r, h with
  | some (.ok a, μ), h => exact fun ι' b H' e' => h ι' b H' (e.trans0 e')
  | some (.error x, μ), h => exact fun ι' H' cv dx e' => h ι' H' cv dx (e.trans0 e')
theorem post.bind {x : RM α} {f : α → List Mo → RM γ} (hp : post K mg T rel' ι Z H (bindR x f) Q' W)
    (h : ∀ a μ1 ι1 b H1, Ext ι [] H ι1 H1 → RG K mg T ι1 Z H1 μ1 → rel ι1 Z H1 a b → post K mg T rel' ι1 Z H1 (f a μ1) Q' W → Q b H1) : post K mg T rel ι Z H x Q W := by
  match x, hp with
  | some (.ok a, μ), hp => exact fun ι' b H' e' g r => h a μ ι' b H' e' g r (hp.mono e')
  | some (.error x, μ), hp => exact hp
theorem post.ret {a : α} {b : β} {μ : List Mo} (hp : post K mg T rel ι Z H (retR a μ) Q W) (g : RG K mg T ι Z H μ) (r : rel ι Z H a b) : Q b H := hp ι b H Ext.refl g r
end
/-- what is wanted of an exception at these slots -/
abbrev WS (W : WX) (σ : L2.St) : Value → Option Addr → Hp → Prop := fun c d H => W c d σ H
def tR {α β : Type} (K : PySem.W.Frag) (mg : Str → Option Value) (T : List (Addr × Str)) (W : WX) (rel : List Addr → List Addr → Hp → α → β → Prop) (r : List Sl → List Mo → RM α) : L2.St → Hp → (β → Hp → Prop) → Prop := fun σ H Q =>
  ∃ ι Z Zf μ δ, RG K mg T ι Z H μ ∧ SR K mg ι Z Zf H δ σ ∧ post K mg T rel ι Z H (r δ μ) Q (WS W σ)
abbrev tE (K : PySem.W.Frag) (mg : Str → Option Value) (T : List (Addr × Str)) (W : WX) (c : E) : TE := tR K mg T W (Rp K mg) (ev c)
abbrev tEs (K : PySem.W.Frag) (mg : Str → Option Value) (T : List (Addr × Str)) (W : WX) (c : Es) : TA := tR K mg T W (Rps K mg) (evs c)
/-- as a test -/
def evT (c : E) : List Sl → List Mo → RM Bool := fun δ μ => bindR (ev c δ μ) fun d μ => match d with
  | .bl b => retR b μ
  | _ => none
abbrev tT (K : PySem.W.Frag) (mg : Str → Option Value) (T : List (Addr × Str)) (W : WX) (c : E) : TT := tR K mg T W (fun _ _ _ (d b : Bool) => d = b) (evT c)
theorem PE.imp {X : Cx} {e : Expr} {t t' : TE} (h : PE X e t) (i : ∀ σ H Q, t' σ H Q → t σ H Q) : PE X e t' := ⟨fun pins s σ H Q I q => h.run pins s σ H Q I (i σ H Q q)⟩
theorem PT.imp {X : Cx} {e : Expr} {t t' : TT} (h : PT X e t) (i : ∀ σ H Q, t' σ H Q → t σ H Q) : PT X e t' := ⟨fun pins s σ H Q I q => h.run pins s σ H Q I (i σ H Q q)⟩
theorem PW.imp {X : Cx} {e : Expr} {t t' : TT} (h : PW X e t) (i : ∀ σ H Q, t' σ H Q → t σ H Q) : PW X e t' := ⟨fun wh pins s σ H Q I q => h.run wh pins s σ H Q I (i σ H Q q)⟩
theorem PA.imp {X : Cx} {e : List Expr} {t t' : TA} (h : PA X e t) (i : ∀ σ H Q, t' σ H Q → t σ H Q) : PA X e t' := ⟨fun pos pins s σ H Q I q => h.run pos pins s σ H Q I (i σ H Q q)⟩
section
variable {X : Cx} {T : List (Addr × Str)} {W : WX} {a b c : Expr} {ca cb cc : E} {pos : Pos}
/-- an operator -/
theorem to_op {o : Op} {σ : L2.St} {H : Hp} {Q : VK} (h : tE X.K X.mg T W (.op o ca cb) σ H Q) : tOp (r2 X.K X.mg T o) (tE X.K X.mg T W ca) (tE X.K X.mg T W cb) σ H Q := by
  obtain ⟨ι, Z, Zf, μ, δ, g, sr, hp⟩ := h
  refine ⟨ι, Z, Zf, μ, δ, g, sr, post.bind hp fun x μ1 ι1 v H1 e1 g1 r1 hp1 => ?_⟩
  refine ⟨ι1, Z, Zf, μ1, δ, g1, sr.ext g e1, post.bind hp1 fun y μ2 ι2 w H2 e2 g2 r2 hp2 => ?_⟩
  unfold optR at hp2
  cases ho : o.do μ2 x y with
  | none => rw [ho] at hp2; exact hp2.elim
  | some r =>
    rw [ho] at hp2
    exact ⟨ι2, Z, μ2, x, y, r, g2, r1.ext0 e2, r2, ho, hp2⟩
theorem m_op {op : Operator} {o : Op} (ho : OpR X (binaryOp op) (r2 X.K X.mg T o)) (ha : PE X a (tE X.K X.mg T W ca)) (hb : PE X b (tE X.K X.mg T W cb)) : PE X (.BinOp a op b pos) (tE X.K X.mg T W (.op o ca cb)) :=
  PE.imp (pe_op ho ha hb) fun _ _ _ h => to_op h
theorem m_cmp {op : CmpOp} {o : Op} (ho : OpR X (compareOp op) (r2 X.K X.mg T o)) (ha : PE X a (tE X.K X.mg T W ca)) (hb : PE X b (tE X.K X.mg T W cb)) (hm : behindInMarks op b = false) : PE X (.Compare a [op] [b] pos) (tE X.K X.mg T W (.op o ca cb)) :=
  PE.imp (pe_cmpR ho ha hb hm) fun _ _ _ h => to_op h
theorem E2T {c : E} {σ : L2.St} {H : Hp} {Q : Bool → Hp → Prop} (h : tT X.K X.mg T W c σ H Q) : tE X.K X.mg T W c σ H (fun x H1 => ∃ k, x = .bl k ∧ Q k H1) := by
  obtain ⟨ι, Z, Zf, μ, δ, g, sr, hp⟩ := h
  refine ⟨ι, Z, Zf, μ, δ, g, sr, post.bind hp fun d μ1 ι1 v H1 e1 g1 r1 hp1 => ?_⟩
  cases d with
  | bl k => exact ⟨k, r1, post.ret hp1 g1 rfl⟩
  | _ => exact hp1.elim
end
end Mi
set_option Elab.async false
set_option linter.all false
set_option maxRecDepth 100000
set_option maxHeartbeats 4000000
/-! Ms: each term of the small language over the rule of its construct. -/
namespace Mi
open PySem PySem.Spec PyProof.Rows L2
section
variable {X : Cx} {T : List (Addr × Str)} {W : WX} {a b c : Expr} {ca cb cc : E} {pos : Pos}
theorem m_var {i : Nat} {x : Str} (hN : X.N[i]? = some x) (hv : Vis X.env.scope x) (hd : (x == ("__debug__" : Str)) = false) (hcd : (x == ("__classdict__" : Str)) = false) : PE X (.Name x pos) (tE X.K X.mg T W (.var i)) :=
  PE.imp (pe_var hN hv hd hcd) fun σ H Q h => by
    obtain ⟨ι, Z, Zf, μ, δ, g, sr, hp⟩ := h
    simp only [ev] at hp
    split at hp
    · rename_i x e
      obtain ⟨v, e1, r⟩ := sr.get e
      exact ⟨v, e1, post.ret hp g r⟩
    · exact hp.elim
theorem con_imp {d : D} {v : V} (r : ∀ ι Z H, Rp X.K X.mg ι Z H d v) {σ : L2.St} {H : Hp} {Q : VK} (h : tE X.K X.mg T W (.con d) σ H Q) : Q v H := by
  obtain ⟨ι, Z, Zf, μ, δ, g, sr, hp⟩ := h
  simp only [ev] at hp
  exact post.ret hp g (r _ _ _)
theorem m_int {i j} : PE X (.Constant (.int i) j pos) (tE X.K X.mg T W (.con (.int i))) := PE.imp pe_int fun _ _ _ h => con_imp (d := .int i) (v := .int i) (fun _ _ _ => rfl) h
theorem m_bl {i j} : PE X (.Constant (.bool i) j pos) (tE X.K X.mg T W (.con (.bl i))) := PE.imp pe_bl fun _ _ _ h => con_imp (d := .bl i) (v := .bl i) (fun _ _ _ => rfl) h
theorem m_non {j} : PE X (.Constant .none j pos) (tE X.K X.mg T W (.con .non)) := PE.imp pe_non fun _ _ _ h => con_imp (d := .non) (v := .non) (fun _ _ _ => rfl) h
theorem m_str {i j} : PE X (.Constant (.str i) j pos) (tE X.K X.mg T W (.con (.str i))) := PE.imp pe_str fun _ _ _ h => con_imp (d := .str i) (v := .str i) (fun _ _ _ => rfl) h
theorem m_glob {x : Str} {v : V} {u : Value} {d : D} (hg : Gl X x) (hm : X.mg x = some u) (r : RelV v u) (hr : ∀ ι Z H, Rp X.K X.mg ι Z H d v) (hd : (x == ("__debug__" : Str)) = false) : PE X (.Name x pos) (tE X.K X.mg T W (.con d)) :=
  PE.imp (pe_glob hg hm r hd) fun _ _ _ h => con_imp hr h
theorem m_blt {x : Str} {n : String} (hg : Gl X x) (hm : X.mg x = none) (hv : bootBuiltins x = some (.type n)) (hn : x ≠ "__name__") (hd : (x == ("__debug__" : Str)) = false) : PE X (.Name x pos) (tE X.K X.mg T W (.con (.ty n))) :=
  PE.imp (pe_bltn (v := .ty n) hg hm hv rfl hn hd) fun _ _ _ h => con_imp (d := .ty n) (v := .ty n) (fun _ _ _ => rfl) h
theorem m_neg (ha : PE X a (tE X.K X.mg T W ca)) : PE X (.UnaryOp .USub a pos) (tE X.K X.mg T W (.neg ca)) :=
  PE.imp (pe_un un_neg ha) fun σ H Q h => by
    obtain ⟨ι, Z, Zf, μ, δ, g, sr, hp⟩ := h
    refine ⟨ι, Z, Zf, μ, δ, g, sr, post.bind hp fun x μ1 ι1 v H1 e1 g1 r1 hp1 => ?_⟩
    cases x with
    | int i => exact ⟨i, r1, post.ret hp1 g1 rfl⟩
    | _ => exact hp1.elim
theorem m_notV (ha : PE X a (tE X.K X.mg T W ca)) : PE X (.UnaryOp .Not a pos) (tE X.K X.mg T W (.not_ ca)) :=
  PE.imp (pe_not ha) fun σ H Q h => by
    obtain ⟨ι, Z, Zf, μ, δ, g, sr, hp⟩ := h
    refine ⟨ι, Z, Zf, μ, δ, g, sr, post.bind hp fun x μ1 ι1 v H1 e1 g1 r1 hp1 => ?_⟩
    cases x with
    | bl i => exact ⟨i, r1, post.ret hp1 g1 rfl⟩
    | _ => exact hp1.elim
/-- not of a thing that is true or not -/
theorem m_nott {x : Str} {px : Pos} (ha : PE X (.Name x px) (tE X.K X.mg T W ca)) : PE X (.UnaryOp .Not (.Name x px) pos) (tE X.K X.mg T W (.nott ca)) :=
  PE.imp (pe_notT ha) fun σ H Q h => by
    obtain ⟨ι, Z, Zf, μ, δ, g, sr, hp⟩ := h
    refine ⟨ι, Z, Zf, μ, δ, g, sr, post.bind hp fun x μ1 ι1 v H1 e1 g1 r1 hp1 => ?_⟩
    cases x with
    | bl i =>
      have r1' : v = V.bl i := r1
      subst r1'
      exact ⟨i, rfl, post.ret hp1 g1 rfl⟩
    | int i =>
      have r1' : v = V.int i := r1
      subst r1'
      exact ⟨!(i == 0), rfl, post.ret hp1 g1 rfl⟩
    | _ => exact hp1.elim
theorem m_andV {rest : List Expr} (ha : PE X a (tE X.K X.mg T W ca)) (hb : PE X (.BoolOp .And (b :: rest) pos) (tE X.K X.mg T W cb)) : PE X (.BoolOp .And (a :: b :: rest) pos) (tE X.K X.mg T W (.and_ ca cb)) :=
  PE.imp (pe_and ha hb) fun σ H Q h => by
    obtain ⟨ι, Z, Zf, μ, δ, g, sr, hp⟩ := h
    refine ⟨ι, Z, Zf, μ, δ, g, sr, post.bind hp fun x μ1 ι1 v H1 e1 g1 r1 hp1 => ?_⟩
    cases x with
    | bl i =>
      refine ⟨i, r1, ?_⟩
      cases i with
      | true => exact iteT ⟨ι1, Z, Zf, μ1, δ, g1, sr.ext g e1, hp1⟩
      | false => exact iteF (post.ret hp1 g1 rfl)
    | _ => exact hp1.elim
theorem m_orV {rest : List Expr} (ha : PE X a (tE X.K X.mg T W ca)) (hb : PE X (.BoolOp .Or (b :: rest) pos) (tE X.K X.mg T W cb)) : PE X (.BoolOp .Or (a :: b :: rest) pos) (tE X.K X.mg T W (.or_ ca cb)) :=
  PE.imp (pe_or ha hb) fun σ H Q h => by
    obtain ⟨ι, Z, Zf, μ, δ, g, sr, hp⟩ := h
    refine ⟨ι, Z, Zf, μ, δ, g, sr, post.bind hp fun x μ1 ι1 v H1 e1 g1 r1 hp1 => ?_⟩
    cases x with
    | bl i =>
      refine ⟨i, r1, ?_⟩
      cases i with
      | true => exact iteT (post.ret hp1 g1 rfl)
      | false => exact iteF ⟨ι1, Z, Zf, μ1, δ, g1, sr.ext g e1, hp1⟩
    | _ => exact hp1.elim
/-! ### tests -/
theorem m_val {e : Expr} {ce : E} (h : PE X e (tE X.K X.mg T W ce)) (he : ∀ whole, isTrue e X.env whole = (do let v ← whole; standAt e.pos; holding [v] (truthy v))) : PT X e (tT X.K X.mg T W ce) :=
  PT.imp (pt_val h he) fun _ _ _ q => E2T q
theorem m_cmpT {op : CmpOp} {o : Op} (ho : OpR X (compareOp op) (r2 X.K X.mg T o)) (ha : PE X a (tE X.K X.mg T W ca)) (hb : PE X b (tE X.K X.mg T W cb)) (hm : behindInMarks op b = false) : PT X (.Compare a [op] [b] pos) (tT X.K X.mg T W (.op o ca cb)) :=
  PT.imp (pt_cmpR ho ha hb hm) fun _ _ _ q => to_op (E2T q)
theorem to_chain {o o' : Op} {σ : L2.St} {H : Hp} {Q : VK} (h : tE X.K X.mg T W (.chain o o' ca cb cc) σ H Q) : tChain (r2 X.K X.mg T o) (r2 X.K X.mg T o') (tE X.K X.mg T W ca) (tE X.K X.mg T W cb) (tE X.K X.mg T W cc) σ H Q := by
  obtain ⟨ι, Z, Zf, μ, δ, g, sr, hp⟩ := h
  refine ⟨ι, Z, Zf, μ, δ, g, sr, post.bind hp fun x μ1 ι1 v H1 e1 g1 r1 hp1 => ?_⟩
  refine ⟨ι1, Z, Zf, μ1, δ, g1, sr.ext g e1, post.bind hp1 fun y μ2 ι2 w H2 e2 g2 r2 hp2 => ?_⟩
  unfold optR at hp2
  cases ho : o.do μ2 x y with
  | none => rw [ho] at hp2; exact hp2.elim
  | some r =>
    rw [ho] at hp2
    simp only [Option.bind_some, bindR] at hp2
    refine ⟨ι2, Z, μ2, x, y, r, g2, r1.ext0 e2, r2, ho, fun ι3 z H3 e3 g3 r3 => ?_⟩
    cases r with
    | bl k =>
      refine ⟨k, r3, ?_⟩
      cases k with
      | true =>
        refine iteT ⟨ι3, Z, Zf, μ2, δ, g3, (sr.ext g (e1.trans0 e2)).ext g2 e3, post.bind (hp2.mono e3) fun u μ4 ι4 t H4 e4 g4 r4 hp4 => ?_⟩
        cases ho' : o'.do μ4 y u with
        | none => simp only [optR, ho'] at hp4; exact hp4.elim
        | some r' =>
          simp only [optR, ho', Option.bind_some] at hp4
          exact ⟨ι4, Z, μ4, y, u, r', g4, (r2.ext0 e3).ext0 e4, r4, ho', hp4⟩
      | false => exact iteF (post.ret (hp2.mono e3) g3 rfl)
    | _ => exact hp2.elim
theorem m_chain {op op' : CmpOp} {o o' : Op} (ho : OpR X (compareOp op) (r2 X.K X.mg T o)) (ho' : OpR X (compareOp op') (r2 X.K X.mg T o')) (ha : PE X a (tE X.K X.mg T W ca)) (hb : PE X b (tE X.K X.mg T W cb)) (hc : PE X c (tE X.K X.mg T W cc)) (hm : lastMarks [op, op'] [b, c] = false) :
    PE X (.Compare a [op, op'] [b, c] pos) (tE X.K X.mg T W (.chain o o' ca cb cc)) := PE.imp (pe_chain ho ho' ha hb hc hm) fun _ _ _ q => to_chain q
theorem m_chainT {op op' : CmpOp} {o o' : Op} (ho : OpR X (compareOp op) (r2 X.K X.mg T o)) (ho' : OpR X (compareOp op') (r2 X.K X.mg T o')) (ha : PE X a (tE X.K X.mg T W ca)) (hb : PE X b (tE X.K X.mg T W cb)) (hc : PE X c (tE X.K X.mg T W cc)) (hm : lastMarks [op, op'] [b, c] = false) :
    PT X (.Compare a [op, op'] [b, c] pos) (tT X.K X.mg T W (.chain o o' ca cb cc)) := PT.imp (pt_chain ho ho' ha hb hc hm) fun _ _ _ q => to_chain (E2T q)
theorem evT_and (ca cb : E) (δ : List Sl) (μ : List Mo) : evT (.and_ ca cb) δ μ = bindR (evT ca δ μ) fun k μ => if k = true then evT cb δ μ else retR false μ := by
  unfold evT
  simp only [ev]
  cases h : ev ca δ μ with
  | none => rfl
  | some r =>
    obtain ⟨r, μ1⟩ := r
    cases r with
    | error e => rfl
    | ok d => cases d with
      | bl k => cases k <;> rfl
      | _ => rfl
theorem evT_or (ca cb : E) (δ : List Sl) (μ : List Mo) : evT (.or_ ca cb) δ μ = bindR (evT ca δ μ) fun k μ => if k = true then retR true μ else evT cb δ μ := by
  unfold evT
  simp only [ev]
  cases h : ev ca δ μ with
  | none => rfl
  | some r =>
    obtain ⟨r, μ1⟩ := r
    cases r with
    | error e => rfl
    | ok d => cases d with
      | bl k => cases k <;> rfl
      | _ => rfl
theorem evT_not (ca : E) (δ : List Sl) (μ : List Mo) : evT (.not_ ca) δ μ = bindR (evT ca δ μ) fun k μ => retR (!k) μ := by
  unfold evT
  simp only [ev]
  cases h : ev ca δ μ with
  | none => rfl
  | some r =>
    obtain ⟨r, μ1⟩ := r
    cases r with
    | error e => rfl
    | ok d => cases d with
      | bl k => cases k <;> rfl
      | _ => rfl
theorem m_andT1 (ha : PT X a (tT X.K X.mg T W ca)) : PW X (.BoolOp .And [a] pos) (tT X.K X.mg T W ca) := pw_and1 ha
theorem m_orT1 (ha : PT X a (tT X.K X.mg T W ca)) : PW X (.BoolOp .Or [a] pos) (tT X.K X.mg T W ca) := pw_or1 ha
theorem m_andT {rest : List Expr} (ha : PT X a (tT X.K X.mg T W ca)) (hb : PW X (.BoolOp .And (b :: rest) pos) (tT X.K X.mg T W cb)) : PW X (.BoolOp .And (a :: b :: rest) pos) (tT X.K X.mg T W (.and_ ca cb)) :=
  PW.imp (pw_and ha hb) fun σ H Q h => by
    obtain ⟨ι, Z, Zf, μ, δ, g, sr, hp⟩ := h
    rw [evT_and] at hp
    refine ⟨ι, Z, Zf, μ, δ, g, sr, post.bind hp fun k μ1 ι1 k' H1 e1 g1 r1 hp1 => ?_⟩
    subst r1
    cases k with
    | true => exact iteT ⟨ι1, Z, Zf, μ1, δ, g1, sr.ext g e1, hp1⟩
    | false => exact iteF (post.ret hp1 g1 rfl)
theorem m_orT {rest : List Expr} (ha : PT X a (tT X.K X.mg T W ca)) (hb : PW X (.BoolOp .Or (b :: rest) pos) (tT X.K X.mg T W cb)) : PW X (.BoolOp .Or (a :: b :: rest) pos) (tT X.K X.mg T W (.or_ ca cb)) :=
  PW.imp (pw_or ha hb) fun σ H Q h => by
    obtain ⟨ι, Z, Zf, μ, δ, g, sr, hp⟩ := h
    rw [evT_or] at hp
    refine ⟨ι, Z, Zf, μ, δ, g, sr, post.bind hp fun k μ1 ι1 k' H1 e1 g1 r1 hp1 => ?_⟩
    subst r1
    cases k with
    | true => exact iteT (post.ret hp1 g1 rfl)
    | false => exact iteF ⟨ι1, Z, Zf, μ1, δ, g1, sr.ext g e1, hp1⟩
theorem evT_nott (ca : E) (δ : List Sl) (μ : List Mo) : evT (.nott ca) δ μ = bindR (ev ca δ μ) fun d μ => optR ((truD d).map (!·)) μ := by
  unfold evT
  simp only [ev]
  cases h : ev ca δ μ with
  | none => rfl
  | some r =>
    obtain ⟨r, μ1⟩ := r
    cases r with
    | error e => rfl
    | ok d => cases d with
      | bl k => rfl
      | int k => rfl
      | _ => rfl
theorem m_nottT {x : Str} {px : Pos} (ha : PE X (.Name x px) (tE X.K X.mg T W ca)) : PT X (.UnaryOp .Not (.Name x px) pos) (tT X.K X.mg T W (.nott ca)) :=
  PT.imp (pt_not (pt_truth ha (fun _ => rfl))) fun σ H Q h => by
    obtain ⟨ι, Z, Zf, μ, δ, g, sr, hp⟩ := h
    rw [evT_nott] at hp
    refine ⟨ι, Z, Zf, μ, δ, g, sr, post.bind hp fun d μ1 ι1 v H1 e1 g1 r1 hp1 => ?_⟩
    cases d with
    | bl i =>
      have r1' : v = V.bl i := r1
      subst r1'
      exact ⟨i, rfl, post.ret hp1 g1 rfl⟩
    | int i =>
      have r1' : v = V.int i := r1
      subst r1'
      exact ⟨!(i == 0), rfl, post.ret hp1 g1 rfl⟩
    | _ => exact hp1.elim
theorem m_notT (ha : PT X a (tT X.K X.mg T W ca)) : PT X (.UnaryOp .Not a pos) (tT X.K X.mg T W (.not_ ca)) :=
  PT.imp (pt_not ha) fun σ H Q h => by
    obtain ⟨ι, Z, Zf, μ, δ, g, sr, hp⟩ := h
    rw [evT_not] at hp
    refine ⟨ι, Z, Zf, μ, δ, g, sr, post.bind hp fun k μ1 ι1 k' H1 e1 g1 r1 hp1 => ?_⟩
    subst r1
    exact post.ret hp1 g1 rfl
theorem m_ite (hc : PT X c (tT X.K X.mg T W cc)) (ha : PE X a (tE X.K X.mg T W ca)) (hb : PE X b (tE X.K X.mg T W cb)) : PE X (.IfExp c a b pos) (tE X.K X.mg T W (.ite cc ca cb)) :=
  PE.imp (pe_ifExp hc ha hb) fun σ H Q h => by
    obtain ⟨ι, Z, Zf, μ, δ, g, sr, hp⟩ := h
    have e : ev (.ite cc ca cb) δ μ = bindR (evT cc δ μ) fun k μ => if k = true then ev ca δ μ else ev cb δ μ := by
      unfold evT
      simp only [ev]
      cases h : ev cc δ μ with
      | none => rfl
      | some r =>
        obtain ⟨r, μ1⟩ := r
        cases r with
        | error e => rfl
        | ok d => cases d with
          | bl k => cases k <;> rfl
          | _ => rfl
    rw [e] at hp
    refine ⟨ι, Z, Zf, μ, δ, g, sr, post.bind hp fun k μ1 ι1 k' H1 e1 g1 r1 hp1 => ?_⟩
    subst r1
    cases k with
    | true => exact iteT ⟨ι1, Z, Zf, μ1, δ, g1, sr.ext g e1, hp1⟩
    | false => exact iteF ⟨ι1, Z, Zf, μ1, δ, g1, sr.ext g e1, hp1⟩
/-! ### items, slices, displays -/
theorem m_idx (hu : X.A.units + 1 < cLine) (ha : PE X a (tE X.K X.mg T W ca)) (hb : PE X b (tE X.K X.mg T W cb)) (hs : PlainIx b) : PE X (.Subscript a b pos) (tE X.K X.mg T W (.idx ca cb)) :=
  PE.imp (pe_ix (ix_ok (T := T) hu) ha hb hs) fun σ H Q h => by
    obtain ⟨ι, Z, Zf, μ, δ, g, sr, hp⟩ := h
    refine ⟨ι, Z, Zf, μ, δ, g, sr, post.bind hp fun x μ1 ι1 v H1 e1 g1 r1 hp1 => ?_⟩
    refine ⟨ι1, Z, Zf, μ1, δ, g1, sr.ext g e1, post.bind hp1 fun y μ2 ι2 w H2 e2 g2 r2 hp2 => ?_⟩
    unfold optR at hp2
    cases ho : ixD μ2 x y with
    | none => rw [ho] at hp2; exact hp2.elim
    | some r =>
      rw [ho] at hp2
      exact ⟨ι2, Z, μ2, x, y, r, g2, r1.ext0 e2, r2, ho, hp2⟩
theorem m_lidx {i : Nat} {x : Str} {p : Pos} (hN : X.N[i]? = some x) (hv : Vis X.env.scope x) (hd : (x == ("__debug__" : Str)) = false) (hcd : (x == ("__classdict__" : Str)) = false) (hb : PE X b (tE X.K X.mg T W cb)) (hs : PlainIx b) :
    PE X (.Subscript (.Name x p) b pos) (tE X.K X.mg T W (.lidx i cb)) :=
  PE.imp (pe_ix ix_list (pe_var hN hv hd hcd) hb hs) fun σ H Q h => by
    obtain ⟨ι, Z, Zf, μ, δ, g, sr, hp⟩ := h
    simp only [ev] at hp
    split at hp
    · rename_i xs e
      obtain ⟨a, vs, h1, h2, h3, h4⟩ := sr.ok i _ e
      refine ⟨.ref a, h1, ι, Z, Zf, μ, δ, g, sr, post.bind hp fun y μ1 ι1 v H1 e1 g1 r1 hp1 => ?_⟩
      cases y with
      | int j =>
        simp only [optR] at hp1
        cases ho : L2.atI xs j with
        | none => rw [ho] at hp1; exact hp1.elim
        | some r =>
          rw [ho] at hp1
          obtain ⟨w, h5, h6⟩ := (h4.ext0 e1).atI ho
          have := e1.keep a _ h3 (g.zl a (sr.sub a h2)).2 (by simp) (fun _ z => by cases z)
          exact ⟨a, vs, j, w, rfl, r1, SqL.of this, h5, post.ret hp1 g1 h6⟩
      | _ => exact hp1.elim
    · exact hp.elim
theorem m_no : PO X none (tR X.K X.mg T W (fun _ _ _ (a b : Option Int) => a = b) (evo .no)) := ⟨fun pins s σ H Q I h => po_none.run pins s σ H Q I (by
  obtain ⟨ι, Z, Zf, μ, δ, g, sr, hp⟩ := h
  simp only [evo] at hp
  exact post.ret hp g rfl)⟩
theorem m_yes (ha : PE X a (tE X.K X.mg T W ca)) : PO X (some a) (tR X.K X.mg T W (fun _ _ _ (a b : Option Int) => a = b) (evo (.yes ca))) := ⟨fun pins s σ H Q I h => (po_some ha).run pins s σ H Q I (by
  obtain ⟨ι, Z, Zf, μ, δ, g, sr, hp⟩ := h
  simp only [evo] at hp
  refine ⟨ι, Z, Zf, μ, δ, g, sr, post.bind hp fun x μ1 ι1 v H1 e1 g1 r1 hp1 => ?_⟩
  cases x with
  | int i => exact ⟨i, r1, post.ret hp1 g1 rfl⟩
  | _ => exact hp1.elim)⟩
theorem m_slc {lo hi : Option Expr} {cl ch : Eo} {p2 : Pos} (ha : PE X a (tE X.K X.mg T W ca)) (hl : PO X lo (tR X.K X.mg T W (fun _ _ _ (a b : Option Int) => a = b) (evo cl))) (hh : PO X hi (tR X.K X.mg T W (fun _ _ _ (a b : Option Int) => a = b) (evo ch))) :
    PE X (.Subscript a (.Slice lo hi none p2) pos) (tE X.K X.mg T W (.slc ca cl ch)) :=
  PE.imp (pe_slice (sl_ok (T := T)) ha hl hh) fun σ H Q h => by
    obtain ⟨ι, Z, Zf, μ, δ, g, sr, hp⟩ := h
    refine ⟨ι, Z, Zf, μ, δ, g, sr, post.bind hp fun x μ1 ι1 v H1 e1 g1 r1 hp1 => ?_⟩
    refine ⟨ι1, Z, Zf, μ1, δ, g1, sr.ext g e1, post.bind hp1 fun l μ2 ι2 l' H2 e2 g2 r2 hp2 => ?_⟩
    subst r2
    refine ⟨ι2, Z, Zf, μ2, δ, g2, (sr.ext g e1).ext g1 e2, post.bind hp2 fun u μ3 ι3 u' H3 e3 g3 r3 hp3 => ?_⟩
    subst r3
    unfold optR at hp3
    cases ho : slD μ3 x l u with
    | none => rw [ho] at hp3; exact hp3.elim
    | some r =>
      rw [ho] at hp3
      exact ⟨ι3, Z, μ3, x, r, g3, (r1.ext0 e2).ext0 e3, ho, hp3⟩
/-! ### argument lists, displays -/
theorem m_nil : PA X [] (tEs X.K X.mg T W .nil) := PA.imp pa_nil fun σ H Q h => by
  obtain ⟨ι, Z, Zf, μ, δ, g, sr, hp⟩ := h
  simp only [evs] at hp
  exact post.ret hp g (show Rps X.K X.mg ι Z H [] [] from rfl)
theorem m_cons {es : List Expr} {ces : Es} (ha : PE X a (tE X.K X.mg T W ca)) (hr : PA X es (tEs X.K X.mg T W ces)) (hs : starEach (a :: es) X.env = (false, eval a X.env) :: starEach es X.env) : PA X (a :: es) (tEs X.K X.mg T W (.cons ca ces)) :=
  PA.imp (pa_cons ha hr hs) fun σ H Q h => by
    obtain ⟨ι, Z, Zf, μ, δ, g, sr, hp⟩ := h
    simp only [evs] at hp
    refine ⟨ι, Z, Zf, μ, δ, g, sr, post.bind hp fun x μ1 ι1 v H1 e1 g1 r1 hp1 => ?_⟩
    refine ⟨ι1, Z, Zf, μ1, δ, g1, sr.ext g e1, post.bind hp1 fun xs μ2 ι2 vs H2 e2 g2 r2 hp2 => ?_⟩
    exact post.ret hp2 g2 (show Rps X.K X.mg ι2 Z H2 (x :: xs) (v :: vs) from ⟨v, vs, rfl, r1.ext0 e2, r2⟩)
theorem m_tup {es : List Expr} {ces : Es} {k} (h : PA X es (tEs X.K X.mg T W ces)) : PE X (.Tuple es k pos) (tE X.K X.mg T W (.tup ces)) :=
  PE.imp (pe_tup h) fun σ H Q h => by
    obtain ⟨ι, Z, Zf, μ, δ, g, sr, hp⟩ := h
    refine ⟨ι, Z, Zf, μ, δ, g, sr, post.bind hp fun xs μ1 ι1 vs H1 e1 g1 r1 hp1 => ?_⟩
    split at hp1
    · rename_i hz
      exact ⟨by rw [← r1.length]; exact hz, fun p hn => hp1 ι1 _ _ (ext_fresh hn) (g1.fresh hn) (Rp.newT hn r1)⟩
    · exact hp1.elim
theorem m_lst {es : List Expr} {ces : Es} (h : PA X es (tEs X.K X.mg T W ces)) : PE X (.List es pos) (tE X.K X.mg T W (.lst ces)) :=
  PE.imp (pe_lst h) fun σ H Q h => by
    obtain ⟨ι, Z, Zf, μ, δ, g, sr, hp⟩ := h
    refine ⟨ι, Z, Zf, μ, δ, g, sr, post.bind hp fun xs μ1 ι1 vs H1 e1 g1 r1 hp1 => ?_⟩
    split at hp1
    · rename_i hz
      exact ⟨by rw [← r1.length]; exact hz, fun p hn => hp1 ι1 _ _ (ext_fresh hn) (g1.fresh hn) (Rp.newL g1 hn r1)⟩
    · exact hp1.elim
/-- a new changeable thing -/
theorem ext_more {ι : List Addr} {H : Hp} {p : Addr} {o : HO} (hp : H p = none) : Ext ι [] H (ι ++ [p]) (upd H p o) := by
  have e : Ext ι [] H ι (upd H p o) := ext_fresh hp
  exact ⟨⟨[p], rfl, fun q hq => by rw [List.mem_singleton.mp hq]; exact hp⟩, e.keep, e.there, e.tups⟩
theorem RG.more {K : PySem.W.Frag} {mg : Str → Option Value} {ι Z : List Addr} {H : Hp} {μ : List Mo} (g : RG K mg T ι Z H μ) {p : Addr} {o : HO} {m : Mo} (hp : H p = none) (hm : RpM K mg (ι ++ [p]) Z (upd H p o) p m) : RG K mg T (ι ++ [p]) Z (upd H p o) (μ ++ [m]) := by
  have g1 : RG K mg T ι Z (upd H p o) μ := g.fresh hp
  have np := g.notin hp
  have e := ext_more (ι := ι) (o := o) hp
  refine ⟨?_, by simp [g.len], fun n m' h => ?_, fun z hz => ⟨(g1.zl z hz).1, fun q => ?_⟩, g1.tabs⟩
  · rw [List.nodup_append]
    refine ⟨g.nd, by simp, fun a ha b hb => ?_⟩
    rw [List.mem_singleton.mp hb]
    exact fun q => np.1 (q ▸ ha)
  · by_cases hn : n < μ.length
    · rw [List.getElem?_append_left hn] at h
      obtain ⟨a, h1, h2⟩ := g.mem n m' h
      obtain ⟨u, q, _⟩ := h2.at
      refine ⟨a, by rw [List.getElem?_append_left (by rw [g.len]; exact hn)]; exact h1, h2.ext (Zf := []) e (by simp) (fun _ z => .inl z) (upd_ne (ne_of_none q hp))⟩
    · have hn2 : n = μ.length := by
        have := (List.getElem?_eq_some_iff.mp h).1
        simp at this; omega
      subst hn2
      rw [List.getElem?_append_right (Nat.le_refl _)] at h
      simp at h
      subst h
      exact ⟨p, by rw [← g.len]; simp, hm⟩
  · rcases List.mem_append.mp q with q | q
    · exact (g.zl z hz).2 q
    · rw [List.mem_singleton.mp q] at hz
      exact np.2 hz
theorem m_mlst {es : List Expr} {ces : Es} (h : PA X es (tEs X.K X.mg T W ces)) : PE X (.List es pos) (tE X.K X.mg T W (.mlst ces)) :=
  PE.imp (pe_lst h) fun σ H Q h => by
    obtain ⟨ι, Z, Zf, μ, δ, g, sr, hp⟩ := h
    refine ⟨ι, Z, Zf, μ, δ, g, sr, post.bind hp fun xs μ1 ι1 vs H1 e1 g1 r1 hp1 => ?_⟩
    split at hp1
    · rename_i hz
      refine ⟨by rw [← r1.length]; exact hz, fun p hn => hp1 _ _ _ (ext_more hn) (g1.more hn ⟨vs, upd_same, r1.ext0 (ext_more hn)⟩) ⟨p, rfl, ?_⟩⟩
      rw [← g1.len]; simp
    · exact hp1.elim
theorem m_lrng {p pos' pos : Pos} (hc : X.calm = true) (hg : Gl X "list") (hm : X.mg "list" = none) (hg2 : Gl X "range") (hm2 : X.mg "range" = none) (ha : PE X a (tE X.K X.mg T W ca)) (na : starEach [a] X.env = (false, eval a X.env) :: starEach [] X.env) {p2 : Pos} :
    PE X (.Call (.Name "list" p) [.Call (.Name "range" p2) [a] [] pos'] [] pos) (tE X.K X.mg T W (.lrng ca)) :=
  PE.imp (pe_listRg hc hg hm (prg_1 hg2 hm2 ha na)) fun σ H Q h => by
    obtain ⟨ι, Z, Zf, μ, δ, g, sr, hp⟩ := h
    refine ⟨ι, Z, Zf, μ, δ, g, sr, post.bind hp fun x μ1 ι1 v H1 e1 g1 r1 hp1 => ?_⟩
    cases x with
    | int j =>
      simp only at hp1
      split at hp1
      · rename_i hj
        simp only [Bool.and_eq_true, decide_eq_true_eq] at hj
        refine ⟨j, r1, ⟨by omega, by omega, by omega, by omega, by omega⟩, fun q hq => ?_⟩
        refine hp1 ι1 _ _ (ext_fresh hq) (g1.fresh hq) (Rp.newL g1 hq ?_)
        have e : rgD 0 j = ((List.range (j - 0).toNat).map fun (i : Nat) => (0 : Int) + i).map D.int := by
          unfold rgD; rw [List.map_map]; rfl
        have e2 : rgV 0 j = ((List.range (j - 0).toNat).map fun (i : Nat) => (0 : Int) + i).map V.int := by
          unfold rgV; rw [List.map_map]; rfl
        rw [e, e2]
        exact Rps.ints _
      · exact hp1.elim
    | _ => exact hp1.elim
/-! ### calls -/
theorem m_bi {f : Bi} {x : Str} {id : String} {e : Expr} {es : List Expr} {ces : Es} {p : Pos} (hc : CallR X (.builtin id) (rb X.K X.mg T f)) (hg : Gl X x) (hm : X.mg x = none) (hv : bootBuiltins x = some (.builtin id)) (ha : PA X (e :: es) (tEs X.K X.mg T W ces)) (hn : x ≠ "__name__") (hdb : (x == ("__debug__" : Str)) = false)
    (he : starEach (e :: es) X.env = (false, eval e X.env) :: starEach es X.env) (hpl : (backTo pos (starEach es X.env)).any (·.1) = false) : PE X (.Call (.Name x p) (e :: es) [] pos) (tE X.K X.mg T W (.bi f ces)) :=
  PE.imp (pe_callB hc hg hm hv ha hn hdb he hpl) fun σ H Q h => by
    obtain ⟨ι, Z, Zf, μ, δ, g, sr, hp⟩ := h
    refine ⟨ι, Z, Zf, μ, δ, g, sr, post.bind hp fun xs μ1 ι1 vs H1 e1 g1 r1 hp1 => ?_⟩
    unfold optR at hp1
    cases ho : f.do μ1 xs with
    | none => rw [ho] at hp1; exact hp1.elim
    | some r => rw [ho] at hp1; exact ⟨ι1, Z, μ1, xs, r, g1, r1, ho, hp1⟩
theorem m_biT {f : Bi} {x : Str} {id : String} {e : Expr} {es : List Expr} {ces : Es} {p : Pos} (hc : CallR X (.type id) (rb X.K X.mg T f)) (hg : Gl X x) (hm : X.mg x = none) (hv : bootBuiltins x = some (.type id)) (ha : PA X (e :: es) (tEs X.K X.mg T W ces)) (hn : x ≠ "__name__") (hdb : (x == ("__debug__" : Str)) = false)
    (he : starEach (e :: es) X.env = (false, eval e X.env) :: starEach es X.env) (hpl : (backTo pos (starEach es X.env)).any (·.1) = false) : PE X (.Call (.Name x p) (e :: es) [] pos) (tE X.K X.mg T W (.bi f ces)) :=
  PE.imp (pe_callTy hc hg hm hv ha hn hdb he hpl) fun σ H Q h => by
    obtain ⟨ι, Z, Zf, μ, δ, g, sr, hp⟩ := h
    refine ⟨ι, Z, Zf, μ, δ, g, sr, post.bind hp fun xs μ1 ι1 vs H1 e1 g1 r1 hp1 => ?_⟩
    unfold optR at hp1
    cases ho : f.do μ1 xs with
    | none => rw [ho] at hp1; exact hp1.elim
    | some r => rw [ho] at hp1; exact ⟨ι1, Z, μ1, xs, r, g1, r1, ho, hp1⟩
end
/-- what a def promises: it does what F does -/
def spF (K : PySem.W.Frag) (mg : Str → Option Value) (T : List (Addr × Str)) (n : Nat) (F : Sem) : Sp := fun vs H Q E => vs.length = n ∧ ∃ ι Z μ ds, RG K mg T ι Z H μ ∧ Rps K mg ι Z H ds vs ∧ post K mg T (Rp K mg) ι Z H (F ds μ) Q E
section
variable {X : Cx} {T : List (Addr × Str)} {W : WX} {a b c : Expr} {ca cb cc : E} {pos : Pos}
theorem m_call {x : Str} {e : Expr} {es : List Expr} {ces : Es} {F : Sem} {n k : Nat} {f : Addr} {fd : FuncData} {ps : List Str} {p : Pos} (FO : FnOk X.prog X.w X.K X.mg X.base (L2N.CX X.prog X.w) k f fd ps (spF X.K X.mg T n F)) (hr : Room k X.A) (hg : Gl X x) (hm : X.mg x = some (.ref f))
    (hk : PySem.W.keepIn X.K (.ref f) = true) (hb : Binds X.K fd ps []) (tk : L2N.Takes X W) (hn : es.length + 1 = n) (ha : PA X (e :: es) (tEs X.K X.mg T W ces)) (hdb : (x == ("__debug__" : Str)) = false)
    (he : starEach (e :: es) X.env = (false, eval e X.env) :: starEach es X.env) (hpl : (backTo pos (starEach es X.env)).any (·.1) = false) (hl : ∀ δ μ xs μ', evs ces δ μ = some (.ok xs, μ') → xs.length = n) :
    PE X (.Call (.Name x p) (e :: es) [] pos) (tE X.K X.mg T W (.call F ces)) :=
  PE.imp (pe_callS (E := WE W) FO hr hg hm hk hb (fun σ => L2N.passAt tk σ) ha hdb he hpl) fun σ H Q h => by
    obtain ⟨ι, Z, Zf, μ, δ, g, sr, hp⟩ := h
    have hp0 : post X.K X.mg T (Rp X.K X.mg) ι Z H (bindR (evs ces δ μ) fun xs μ => F xs μ) Q (WS W σ) := hp
    refine ⟨ι, Z, Zf, μ, δ, g, sr, ?_⟩
    cases hx : evs ces δ μ with
    | none => rw [hx] at hp0; exact hp0.elim
    | some r =>
      obtain ⟨r, μ1⟩ := r
      cases r with
      | error e => rw [hx] at hp0; exact hp0
      | ok xs =>
        rw [hx] at hp0
        have ln := hl _ _ _ _ hx
        exact fun ι1 vs H1 e1 g1 r1 => ⟨by rw [← r1.length]; exact ln, ι1, Z, μ1, xs, g1, r1, hp0.mono e1⟩
end
end Mi
set_option Elab.async false
set_option linter.all false
set_option maxRecDepth 100000
set_option maxHeartbeats 4000000
/-! Msb: [e] * k as a changeable list; a dict with written text keys. -/
namespace Mi
open PySem PySem.Spec PyProof.Rows L2
section
variable {X : Cx} {T : List (Addr × Str)} {W : WX} {a b : Expr} {ca cb : E} {pos : Pos}
theorem rep1 {α : Type} (n : Nat) (x : α) : (List.replicate n [x]).flatten = List.replicate n x := by
  induction n with
  | zero => rfl
  | succ n ih => rw [List.replicate_succ, List.flatten_cons, ih]; rfl
theorem Rps.repl {K : PySem.W.Frag} {mg : Str → Option Value} {ι Z : List Addr} {H : Hp} {d : D} {v : V} (h : Rp K mg ι Z H d v) : ∀ n : Nat, Rps K mg ι Z H (List.replicate n d) (List.replicate n v)
  | 0 => rfl
  | n + 1 => ⟨v, _, rfl, h, Rps.repl h n⟩
theorem m_mrep {p : Pos} (ha : PE X a (tE X.K X.mg T W ca)) (hb : PE X b (tE X.K X.mg T W cb)) (hs : starEach [a] X.env = (false, eval a X.env) :: starEach [] X.env) : PE X (.BinOp (.List [a] p) .Mult b pos) (tE X.K X.mg T W (.mrep ca cb)) :=
  PE.imp (pe_op op_rep (pe_lst (pa_cons ha pa_nil hs)) hb) fun σ H Q h => by
    obtain ⟨ι, Z, Zf, μ, δ, g, sr, hp⟩ := h
    refine ⟨ι, Z, Zf, μ, δ, g, sr, post.bind hp fun x μ1 ι1 v H1 e1 g1 r1 hp1 => ⟨by show 1 ≤ sizeLine; decide, fun q hq => ?_⟩⟩
    have e2 : Ext ι1 [] H1 ι1 (upd H1 q (.lst [v])) := ext_fresh hq
    refine ⟨ι1, Z, Zf, μ1, δ, g1.fresh hq, (sr.ext g e1).ext g1 e2, post.bind (hp1.mono e2) fun y μ2 ι2 w H2 e3 g2 r2 hp2 => ?_⟩
    cases y with
    | int j =>
      simp only at hp2
      split at hp2
      · rename_i hc
        simp only [Bool.and_eq_true, decide_eq_true_eq] at hc
        have hv2 : H2 q = some (.lst [v]) := e3.keep q _ upd_same (g1.notin hq).1 (by simp) (fun _ z => by cases z)
        refine ⟨q, j, [v], rfl, r2, hv2, hc.1.1, hc.1.2, by simpa using hc.2, fun p hn => ?_⟩
        have r3 : Rp X.K X.mg ι2 Z H2 x v := (r1.ext0 e2).ext0 e3
        rw [rep1]
        exact hp2 _ _ _ (ext_more hn) (g2.more hn ⟨_, upd_same, (Rps.repl r3 _).ext0 (ext_more hn)⟩) ⟨p, rfl, by rw [← g2.len]; simp⟩
      · exact hp2.elim
    | _ => exact hp2.elim
end
/-! ### a dict -/
section
variable {K : PySem.W.Frag} {mg : Str → Option Value} {T : List (Addr × Str)} {ι ι2 Z : List Addr} {H H2 : Hp} {μ μ2 : List Mo} {p : Addr} {kv0 kv1 : List (Key × V)}
theorem ext_dict (hp : H p = none) (e : Ext ι [] (upd H p (.dK kv0)) ι2 H2) : Ext ι [] H (ι2 ++ [p]) (upd H2 p (.dK kv1)) := by
  obtain ⟨l, rfl, h1⟩ := e.ids
  refine ⟨⟨l ++ [p], by rw [List.append_assoc], fun q hq => ?_⟩, fun a o q n1 n2 nt => ?_, fun a o q => ?_, fun a xs q => ?_⟩
  · rcases List.mem_append.mp hq with z | z
    · have := h1 q z
      by_cases e : q = p
      · rw [e]; exact hp
      · rw [upd_ne e] at this; exact this
    · rw [List.mem_singleton.mp z]; exact hp
  · have nap : a ≠ p := ne_of_none q hp
    rw [upd_ne nap]
    exact e.keep a o (by rw [upd_ne nap]; exact q) n1 n2 nt
  · have nap : a ≠ p := ne_of_none q hp
    rw [upd_ne nap]
    exact e.there a o (by rw [upd_ne nap]; exact q)
  · have nap : a ≠ p := ne_of_none q hp
    rw [upd_ne nap]
    exact e.tups a xs (by rw [upd_ne nap]; exact q)
mutual
theorem Rp.dict (hp : H2 p = some (.dK kv0)) : ∀ (d : D) (v : V), Rp K mg ι2 Z H2 d v → Rp K mg (ι2 ++ [p]) Z (upd H2 p (.dK kv1)) d v
  | .non, _, h => h
  | .bl _, _, h => h
  | .int _, _, h => h
  | .str _, _, h => h
  | .ty _, _, h => h
  | .glo _, _, h => h
  | .tup ds, v, h => by
    obtain ⟨a, vs, rfl, h1, h2⟩ := h
    refine ⟨a, vs, rfl, ?_, Rps.dict hp ds vs h2⟩
    rcases h1 with h1 | h1
    · exact .inl (by rw [upd_ne (fun z => by rw [z, hp] at h1; cases h1)]; exact h1)
    · exact .inr h1
  | .lst ds, v, h => by
    obtain ⟨a, vs, rfl, ⟨h1, h2, h3⟩, h4⟩ := h
    have nap : a ≠ p := fun z => by rw [z, hp] at h1; cases h1
    exact ⟨a, vs, rfl, ⟨by rw [upd_ne nap]; exact h1, fun z => (List.mem_append.mp z).elim h2 fun z => nap (List.mem_singleton.mp z), h3⟩, Rps.dict hp ds vs h4⟩
  | .obj n, v, h => by
    obtain ⟨a, rfl, h1⟩ := h
    exact ⟨a, rfl, by rw [List.getElem?_append_left (List.getElem?_eq_some_iff.mp h1).1]; exact h1⟩
  | .scr ns, v, h => by
    obtain ⟨a, rfl, h1⟩ := h
    refine ⟨a, rfl, ?_⟩
    rcases h1 with ⟨h1, h2, h3⟩ | h1
    · have nap : a ≠ p := fun z => by
        rcases h1 with h1 | ⟨o, h1⟩
        · rw [z, hp] at h1; cases h1
        · rw [z, hp] at h1; cases h1
      refine .inl ⟨?_, fun z => (List.mem_append.mp z).elim h2 fun z => nap (List.mem_singleton.mp z), h3⟩
      rcases h1 with h1 | ⟨o, h1⟩
      · exact .inl (by rw [upd_ne nap]; exact h1)
      · exact .inr ⟨o, by rw [upd_ne nap]; exact h1⟩
    · exact .inr h1
theorem Rps.dict (hp : H2 p = some (.dK kv0)) : ∀ (ds : List D) (vs : List V), Rps K mg ι2 Z H2 ds vs → Rps K mg (ι2 ++ [p]) Z (upd H2 p (.dK kv1)) ds vs
  | [], _, h => h
  | d :: ds, vs, h => by
    obtain ⟨v, vs', rfl, h1, h2⟩ := h
    exact ⟨v, vs', rfl, Rp.dict hp d v h1, Rps.dict hp ds vs' h2⟩
end
theorem RpM.dict (hp : H2 p = some (.dK kv0)) {a : Addr} {m : Mo} (ha : a ≠ p) (h : RpM K mg ι2 Z H2 a m) : RpM K mg (ι2 ++ [p]) Z (upd H2 p (.dK kv1)) a m := by
  cases m with
  | lst ds => obtain ⟨vs, h1, h2⟩ := h; exact ⟨vs, by rw [upd_ne ha]; exact h1, Rps.dict hp _ _ h2⟩
  | dct kvs => obtain ⟨vs, h1, h2⟩ := h; exact ⟨vs, by rw [upd_ne ha]; exact h1, Rps.dict hp _ _ h2⟩
  | ins c fs => obtain ⟨C, dx, vs, h0, h1, h2⟩ := h; exact ⟨C, dx, vs, h0, by rw [upd_ne ha]; exact h1, Rps.dict hp _ _ h2⟩
theorem RG.dict (g : RG K mg T ι2 Z H2 μ2) (hp : H2 p = some (.dK kv0)) (ni : p ∉ ι2) (nz : p ∉ Z) {m : Mo} (hm : RpM K mg (ι2 ++ [p]) Z (upd H2 p (.dK kv1)) p m) : RG K mg T (ι2 ++ [p]) Z (upd H2 p (.dK kv1)) (μ2 ++ [m]) := by
  refine ⟨?_, by simp [g.len], fun n m' h => ?_, fun z hz => ⟨?_, fun q => ?_⟩, fun t ht => ?_⟩
  · rw [List.nodup_append]
    refine ⟨g.nd, by simp, fun a ha b hb => ?_⟩
    rw [List.mem_singleton.mp hb]
    exact fun q => ni (q ▸ ha)
  · by_cases hn : n < μ2.length
    · rw [List.getElem?_append_left hn] at h
      obtain ⟨a, h1, h2⟩ := g.mem n m' h
      refine ⟨a, by rw [List.getElem?_append_left (by rw [g.len]; exact hn)]; exact h1, h2.dict hp fun q => ni (q ▸ List.mem_of_getElem? h1)⟩
    · have hn2 : n = μ2.length := by
        have := (List.getElem?_eq_some_iff.mp h).1
        simp at this
        omega
      subst hn2
      rw [List.getElem?_append_right (Nat.le_refl _)] at h
      simp at h
      subst h
      exact ⟨p, by rw [← g.len, List.getElem?_append_right (Nat.le_refl _)]; simp, hm⟩
  · obtain ⟨us, hu⟩ := (g.zl z hz).1
    exact ⟨us, by rw [upd_ne (fun q => nz (by rw [← q]; exact hz))]; exact hu⟩
  · rcases List.mem_append.mp q with q | q
    · exact (g.zl z hz).2 q
    · exact nz (List.mem_singleton.mp q ▸ hz)
  · obtain ⟨ps, h1, h2, h3⟩ := g.tabs t ht
    refine ⟨ps, ?_, h2, fun pos cv hc => ?_⟩
    · rw [upd_ne (fun z => by rw [z, hp] at h1; cases h1)]; exact h1
    · obtain ⟨c, e1, e2⟩ := h3 pos cv hc
      exact ⟨c, e1, by rw [upd_ne (ne_of e2 hp (by unfold LamX.CodeO; simp))]; exact e2⟩
theorem merge_id : ∀ (kvs acc : List (Key × V)), (acc.map (·.1) ++ kvs.map (·.1)).Nodup → mergeK acc kvs = acc ++ kvs
  | [], acc, _ => by simp [mergeK]
  | q :: kvs, acc, h => by
    have hq : (acc.any fun kv => decide (kv.1 = q.1)) = false := by
      rw [List.any_eq_false]
      intro x hx
      simp only [decide_eq_true_eq]
      intro e
      rw [List.nodup_append] at h
      exact h.2.2 _ (List.mem_map.mpr ⟨x, hx, rfl⟩) _ (by simp) e
    have hp : L2.putK acc q.1 q.2 = acc ++ [q] := by
      unfold L2.putK
      rw [hq]
      rfl
    have := merge_id kvs (acc ++ [q]) (by simpa using h)
    show mergeK (L2.putK acc q.1 q.2) kvs = _
    rw [hp, this]
    simp
end
theorem zip_keys : ∀ (ks : List Str) (vs : List V), (ks.map V.str).zip vs = ((ks.map fun k => (Sum.inr k : Key)).zip vs).map fun kv => (kV kv.1, kv.2)
  | [], _ => rfl
  | _ :: _, [] => rfl
  | k :: ks, v :: vs => by
    simp only [List.map_cons, List.zip_cons_cons, zip_keys ks vs]
    rfl
def trsOf (K : PySem.W.Frag) (mg : Str → Option Value) (T : List (Addr × Str)) (W : WX) : List Str → Es → List (TE × TE)
  | k :: ks, .cons e es => (tC (.str k), tE K mg T W e) :: trsOf K mg T W ks es
  | _, _ => []
def lenE : Es → Nat
  | .nil => 0
  | .cons _ es => lenE es + 1
section
variable {X : Cx} {T : List (Addr × Str)} {W : WX} {pos : Pos}
theorem trs_run {K : PySem.W.Frag} {mg : Str → Option Value} {σ : L2.St} : ∀ (ks : List Str) (ces : Es), ks.length = lenE ces → ∀ (ι Z Zf : List Addr) (μ : List Mo) (δ : List Sl) (H : Hp) (Q : List V → Hp → Prop) (Qp : List (V × V) → Hp → Prop), (∀ vs H', Q vs H' → Qp ((ks.map V.str).zip vs) H') → RG K mg T ι Z H μ → SR K mg ι Z Zf H δ σ → post K mg T (Rps K mg) ι Z H (evs ces δ μ) Q (WS W σ) →
    tPairs (trsOf K mg T W ks ces) σ H Qp
  | [], .nil, _, ι, Z, Zf, μ, δ, H, Q, Qp, hQ, g, sr, hp => by
    simp only [evs] at hp
    exact hQ [] H (post.ret hp g rfl)
  | k :: ks, .cons e es, hl, ι, Z, Zf, μ, δ, H, Q, Qp, hQ, g, sr, hp => by
    simp only [evs] at hp
    refine ⟨ι, Z, Zf, μ, δ, g, sr, post.bind hp fun x μ1 ι1 v H1 e1 g1 r1 hp1 => ?_⟩
    exact trs_run ks es (by simpa [lenE] using hl) ι1 Z Zf μ1 δ H1 (fun vs H' => Q (v :: vs) H') _ (fun vs H' q => hQ (v :: vs) H' q) g1 (sr.ext g e1) (post.bind hp1 fun xs μ2 ι2 vs H2 e2 g2 r2 hp2 => post.ret hp2 g2 ⟨v, vs, rfl, r1.ext0 e2, r2⟩)
  | [], .cons _ _, hl, _, _, _, _, _, _, _, _, _, _, _, _ => by simp [lenE] at hl
  | _ :: _, .nil, hl, _, _, _, _, _, _, _, _, _, _, _, _ => by simp [lenE] at hl
theorem m_dct {keys : List (Option Expr)} {values : List Expr} {ks : List Str} {ces : Es} (h : PPs X pos keys values (trsOf X.K X.mg T W ks ces)) (hall : keys.all (·.isSome) = true) (hl : keys.length = values.length) (h0 : keys ≠ []) (h15 : keys.length ≤ 15) (hk : ks.length = lenE ces) :
    PE X (.Dict keys values pos) (tE X.K X.mg T W (.dct ks ces)) :=
  PE.imp (pe_disp h hall hl h0 h15) fun σ H Q hh => by
    obtain ⟨ι, Z, Zf, μ, δ, g, sr, hp⟩ := hh
    intro p hn
    have e0 : Ext ι [] H ι (upd H p (.dK [])) := ext_fresh hn
    have g0 : RG X.K X.mg T ι Z (upd H p (.dK [])) μ := g.fresh hn
    have nz := g.notin hn
    simp only [ev] at hp
    refine trs_run (W := W) ks ces hk ι Z Zf μ δ _ (fun vs H2 => H2 p = some (.dK []) ∧ vs.length = ks.length ∧ ks.length ≤ 15 ∧ Q (.ref p) (upd H2 p (.dK (mergeK [] ((ks.map fun k => (Sum.inr k : Key)).zip vs))))) _ (fun vs H2 ⟨e2, e3, e4, q⟩ => ⟨e2, (ks.map fun k => (Sum.inr k : Key)).zip vs, zip_keys ks vs, ?_, q⟩) g0 (sr.ext g e0) ?_
    · rw [List.length_zip, List.length_map]; omega
    · match hq : evs ces δ μ, hp with
      | none, hp => exact hp.elim
      | some (.error x, μ1), hp => exact hp.mono e0
      | some (.ok xs, μ2), hp =>
        intro ι2 vs H2 e g2 r2
        replace hp : post X.K X.mg T (Rp X.K X.mg) ι Z H (if (decide (ks.length = xs.length) && decide (ks.length ≤ 15) && decide ks.Nodup && !ks.isEmpty) = true then retR (.obj μ2.length) (μ2 ++ [.dct (ks.zip xs)]) else none) Q (WS W σ) := hp
        split at hp
        · rename_i hc
          simp only [Bool.and_eq_true, decide_eq_true_eq] at hc
          obtain ⟨⟨⟨c1, c2⟩, c3⟩, c4⟩ := hc
          have hv2 : H2 p = some (.dK []) := e.keep p _ upd_same nz.1 (by simp) (fun _ z => by cases z)
          have ni : p ∉ ι2 := by
            obtain ⟨l, rfl, h1⟩ := e.ids
            intro z
            rcases List.mem_append.mp z with z | z
            · exact nz.1 z
            · have := h1 p z; rw [upd_same] at this; cases this
          have lv : vs.length = ks.length := by rw [c1, r2.length]
          have mk : mergeK [] ((ks.map fun k => (Sum.inr k : Key)).zip vs) = (ks.map fun k => (Sum.inr k : Key)).zip vs := by
            rw [merge_id _ [] ?_]
            · rfl
            · rw [List.map_nil, List.nil_append]
              rw [show ((ks.map fun k => (Sum.inr k : Key)).zip vs).map (·.1) = ks.map fun k => (Sum.inr k : Key) from List.map_fst_zip (by simp [lv])]
              exact List.Pairwise.map _ (fun a b h e => h (by cases e; rfl)) c3
          refine ⟨hv2, lv, c2, ?_⟩
          rw [mk]
          refine hp (ι2 ++ [p]) (.ref p) _ (ext_dict hn e) (g2.dict hv2 ni nz.2 ⟨vs, ?_, ?_⟩) ⟨p, rfl, by rw [← g2.len]; simp⟩
          · rw [upd_same]
            rw [show ((ks.zip xs).map fun p => (Sum.inr p.1 : Key)) = ks.map fun k => (Sum.inr k : Key) by rw [← List.map_fst_zip (l₁ := ks) (l₂ := xs) (by omega), List.map_map, List.map_fst_zip (by omega)]; rfl]
          · rw [show (ks.zip xs).map (·.2) = xs from List.map_snd_zip (by omega)]
            exact Rps.dict hv2 _ _ r2
        · exact hp.elim
end
end Mi
set_option Elab.async false
set_option linter.all false
set_option maxRecDepth 100000
set_option maxHeartbeats 4000000
/-! Msc: e[::-1] of a list or a tuple. -/
namespace Mi
open PySem PySem.Spec PyProof.Rows L2 HT
section
variable {prog : Program} {w : World} {A : Around} {E : Value → Shared → Prop} {s : Shared}
theorem adj_rev (n : Nat) : Builtin.Slice.sliceAdjust none none (-1) (n : Int) = ((n : Int) - 1, -1) := by
  simp [Builtin.Slice.sliceAdjust]
theorem pl_rev (n : Nat) : Builtin.Slice.slicePlaces ((n : Int) - 1) (-1) (-1) = n := by
  unfold Builtin.Slice.slicePlaces
  simp
  omega
theorem fm_congr {α β : Type} {f g : α → Option β} : ∀ {l : List α}, (∀ m ∈ l, f m = g m) → l.filterMap f = l.filterMap g
  | [], _ => rfl
  | a :: l, h => by rw [List.filterMap_cons, List.filterMap_cons, h a List.mem_cons_self, fm_congr fun m hm => h m (List.mem_cons_of_mem _ hm)]
theorem pick_rev (xs : Array Value) : ((List.range xs.size).filterMap fun (m : Nat) => xs[((xs.size : Int) - 1 + (m : Int) * -1).toNat]?) = xs.toList.reverse := by
  have h := congrArg Array.toList (PySem.W.krv_pick xs)
  unfold slicePick at h
  rw [PySem.W.krv_bounds] at h
  replace h : ((sliceRange ((xs.size : Int) - 1) (-1) (-1)).filterMap (xs[·]?)).toArray.toList = xs.toList.reverse.toArray.toList := h
  rw [PySem.W.krv_sliceRange, List.filterMap_map] at h
  simp only [List.toList_toArray] at h
  rw [← h]
  apply fm_congr
  intro m hm
  have := List.mem_range.mp hm
  show xs[_]? = xs[xs.size - 1 - m]?
  congr 1
  omega
theorem sliceApplied_rev {sl : Addr} {vs : Value} {n : Nat} {Q : Int × Int × Nat → Shared → Prop} (hs : s.heap.IsSliceOf sl .none .none vs) (ps : IsPart vs (some (-1))) (h : Q ((n : Int) - 1, -1, n) s) : wpAny (model prog w) A (Builtin.Slice.sliceApplied (.ref sl) (pure (n : Int))) Q E s := by
  obtain ⟨os, hos, hcs, hds⟩ := id hs
  unfold Builtin.Slice.sliceApplied Builtin.Slice.sliceFields
  refine wpAny_bind (wpAny_bind (wpAny_field hos hds (x := .none) rfl (wpAny_bind (wpAny_field hos hds (x := .none) rfl (wpAny_bind (wpAny_field hos hds (x := vs) rfl (wpAny_pure ?_)))))))
  refine wpAny_bind (slicePart_ ps ?_)
  show wpAny _ _ (if ((-1 : Int) == 0) = true then _ else _) _ _ s
  rw [if_neg (by decide)]
  refine wpAny_bind (slicePart_none (wpAny_bind (slicePart_none (wpAny_bind (wpAny_pure ?_)))))
  show wpAny _ _ (match Builtin.Slice.sliceAdjust none none (-1) (n : Int) with | (lo, hi) => pure (lo, (-1 : Int), Builtin.Slice.slicePlaces lo hi (-1))) _ _ s
  rw [adj_rev]
  show wpAny _ _ (pure ((n : Int) - 1, (-1 : Int), Builtin.Slice.slicePlaces ((n : Int) - 1) (-1) (-1))) _ _ s
  rw [pl_rev]
  exact wpAny_pure h
theorem getItem_tuple_rev {t sl : Addr} {items : Array Value} {vs : Value} {Q : Value → Shared → Prop} (ht : IsTup s.heap t items) (hs : s.heap.IsSliceOf sl .none .none vs) (ps : IsPart vs (some (-1)))
    (h : Q (.ref s.heap.objs.size) { s with heap := s.heap.push { cls := .type "tuple", data := .seq items.toList.reverse.toArray } }) (hsz : items.size ≤ sizeLine) : wpAny (model prog w) A (getItem (.ref t) (.ref sl)) Q E s := by
  have htake : sizeOk (.seq items.toList.reverse.toArray) := by
    show items.toList.reverse.toArray.size ≤ sizeLine
    rw [List.size_toArray, List.length_reverse, Array.length_toList]; exact hsz
  obtain ⟨os, hos, hcs, hds⟩ := id hs
  have hTs : s.TypeIs (.ref sl) "slice" := ⟨os, hos, hcs⟩
  unfold getItem
  try with_reducible refine wpAny_holding ?_
  first | refine wpAny_bind (wpAny_pure ?_) | skip
  refine wpAny_bind (wpAny_sequenceKey ht.typeIs (by decide) (wpAny_bind (wpAny_callSpecial?_slot (name := Str.ofString "__getitem__") ht.typeIs PyProof.Rows.slot_tuple_getitem (wpAny_call_entry PyProof.Rows.slot_tuple_getitem ht.typeIs entry_tuple_getitem ?_ (args_tuple_getitem _ _)))))
  show wpAny _ _ (Builtin.Tuple.tupleItemsOf (.ref t) >>= _) _ _ s
  refine wpAny_bind (tupleItemsOf_ ht (wpAny_bind (wpAny_typeOf hTs ?_)))
  rw [if_pos (by decide)]
  refine wpAny_bind (sliceApplied_rev hs ps ?_)
  show wpAny _ _ (if ((items.size : Int) - 1 == 0 && (-1 : Int) == 1 && items.size == items.size) = true then _ else _) _ _ s
  rw [if_neg (by simp), pick_rev]
  first
    | exact wpAny_bind (m := Builtin.Tuple.tupleExact _) (wpAny_newObj_type (wpAny_pure ⟨_, rfl, wpAny_pure h⟩) htake)
    | exact wpAny_bind (m := Builtin.Tuple.tupleExact _) (wpAny_newObj_type (wpAny_bind (wpAny_pure (wpAny_pure ⟨_, rfl, wpAny_pure h⟩))) htake)
    | exact wpAny_bind (wpAny_bind (m := Builtin.Tuple.tupleExact _) (wpAny_newObj_type (wpAny_pure (wpAny_pure ⟨_, rfl, wpAny_pure h⟩)) htake))
    | exact wpAny_bind (wpAny_bind (m := Builtin.Tuple.tupleExact _) (wpAny_newObj_type (wpAny_pure ⟨_, rfl, wpAny_pure h⟩) htake))
end
section
variable {X : Cx} {T : List (Addr × Str)} {W : WX} {e : Expr} {ce : E}
/-- a list or a tuple from the end -/
def tRevA (K : PySem.W.Frag) (te : TE) : TE := fun σ H Q => te σ H fun x H1 => ∃ a xs, x = .ref a ∧ ((SqL K H1 a xs ∧ ∀ p, H1 p = none → Q (.ref p) (upd H1 p (.lst xs.reverse))) ∨ (SqT K H1 a xs ∧ ∀ p, H1 p = none → Q (.ref p) (upd H1 p (.tup xs.reverse))))
theorem pe_revA {te : TE} {k : Nat} {p1 p2 p3 pos : Pos} (he : PE X e te) : PE X (.Subscript e (.Slice none none (some (.UnaryOp .USub (.Constant (.int 1) k p1) p2)) p3) pos) (tRevA X.K te) := by
  refine ⟨fun pins s σ H Q I h => Subscript_ (thn (he.run pins s σ H _ I h) fun v s1 ⟨x, H1, I1, r1, a, xs, ex, q⟩ => ?_)⟩
  subst ex
  cases r1
  have hst : PO X (some (.UnaryOp .USub (.Constant (.int 1) k p1) p2)) (tPart (tUn (rU fun i => .int (-i)) (tC (.int 1)))) := po_some (pe_un un_neg pe_int)
  refine wpAny_Slice (thn (po_none.run pins s1 σ H1 (fun o H2 => o = none ∧ H2 = H1) I1 ⟨rfl, rfl⟩) fun vl s2 ⟨l, H2, I2, pl, el, e2⟩ => ?_)
  subst el e2
  refine thn (po_none.run pins s2 σ H2 (fun o H3 => o = none ∧ H3 = H2) I2 ⟨rfl, rfl⟩) fun vu s3 ⟨u, H3, I3, pu, eu, e3⟩ => ?_
  subst eu e3
  refine thn (hst.run pins s3 σ H3 (fun o H4 => o = some (-1) ∧ H4 = H3) I3 ⟨1, rfl, -1, rfl, rfl, rfl⟩) fun vs s4 ⟨o, H4, I4, ps, eo, e4⟩ => ?_
  subst eo e4
  have evl : vl = .none := by cases pl; rfl
  have evu : vu = .none := by cases pu; rfl
  subst evl evu
  have I5 : Inv X pins σ H4 { s4 with heap := s4.heap.push { cls := .type "slice", data := .fields #[.none, .none, vs] } } := I4.kept (t' := s4.toks) fun b ob q => Heap.get?_push_of_some _ q
  show wpAny (model X.prog X.w) X.A (subscriptTail e (.Slice none none (some (.UnaryOp .USub (.Constant (.int 1) k p1) p2)) p3) (.ref a) (.ref s4.heap.objs.size)) (EP X pins σ Q) X.xe { s4 with heap := s4.heap.push { cls := .type "slice", data := .fields #[.none, .none, vs] } }
  rcases q with ⟨hx, q⟩ | ⟨hx, q⟩
  · obtain ⟨its, r, ht, hz⟩ := I5.list hx
    have hlen := r.length
    refine tail_any (ops := [.ref a, .ref s4.heap.objs.size]) ht.isList.typeIs (PySem.slot_list_getitem.lookup) ?_ (by with_unfolding_all rfl)
    refine wpAny_getItem_list_slice ht.isList (Heap.IsSliceOf.new _ .none .none vs) .none .none ps (by decide) ?_ (by rw [List.size_toArray]; omega)
    rw [PySem.W.krv_pick]
    exact ⟨.ref _, _, I5.laid (t' := s4.toks) (o := .lst xs.reverse) (fun b ob q => Heap.get?_push_of_some _ q) (Nat.le_refl _) ⟨by rw [List.length_reverse]; exact hz, _, 0, r.reverse, Heap.get?_push_size _ rfl⟩, rfl, q _ (I5.hok.fresh (Nat.le_refl _))⟩
  · obtain ⟨its, r, ht, hz⟩ := I5.tuple hx
    have hlen := r.length
    refine tail_any (ops := [.ref a, .ref s4.heap.objs.size]) ht.typeIs (PyProof.Rows.slot_tuple_getitem.lookup) ?_ (by with_unfolding_all rfl)
    refine getItem_tuple_rev ht (Heap.IsSliceOf.new _ .none .none vs) ps ?_ (by rw [List.size_toArray]; omega)
    exact ⟨.ref _, _, I5.laid (t' := s4.toks) (o := .tup xs.reverse) (fun b ob q => Heap.get?_push_of_some _ q) (Nat.le_refl _) ⟨by rw [List.length_reverse]; exact hz, _, r.reverse, ⟨_, Heap.get?_push_size _ rfl, rfl, _, rfl⟩⟩, rfl, q _ (I5.hok.fresh (Nat.le_refl _))⟩
theorem Rps.rev {K : PySem.W.Frag} {mg : Str → Option Value} {ι Z : List Addr} {H : Hp} : ∀ {ds : List Mi.D} {vs : List V}, Rps K mg ι Z H ds vs → Rps K mg ι Z H ds.reverse vs.reverse
  | [], _, h => by rw [h]; exact rfl
  | d :: ds, _, h => by
    obtain ⟨v, vs', rfl, h1, h2⟩ := h
    rw [List.reverse_cons, List.reverse_cons]
    exact (Rps.rev h2).append ⟨v, [], rfl, h1, rfl⟩
theorem m_rev {k : Nat} {p1 p2 p3 pos : Pos} (he : PE X e (tE X.K X.mg T W ce)) : PE X (.Subscript e (.Slice none none (some (.UnaryOp .USub (.Constant (.int 1) k p1) p2)) p3) pos) (tE X.K X.mg T W (.rev ce)) :=
  PE.imp (pe_revA he) fun σ H Q h => by
    obtain ⟨ι, Z, Zf, μ, δ, g, sr, hp⟩ := h
    refine ⟨ι, Z, Zf, μ, δ, g, sr, post.bind hp fun x μ1 ι1 v H1 e1 g1 r1 hp1 => ?_⟩
    unfold optR revD at hp1
    split at hp1
    · rename_i xs e2
      obtain ⟨a, vs, rfl, h1, h2⟩ := see_lst g1 e2 r1
      exact ⟨a, vs, rfl, .inl ⟨SqL.of h1, fun p hn => hp1 _ _ _ (ext_fresh hn) (g1.fresh hn) (Rp.newL g1 hn (Rps.rev h2))⟩⟩
    · rename_i xs e2
      obtain ⟨a, vs, rfl, h1, h2⟩ := see_seq g1 e2 r1
      exact ⟨a, vs, rfl, .inr ⟨h1.sq, fun p hn => hp1 _ _ _ (ext_fresh hn) (g1.fresh hn) (Rp.newT hn (Rps.rev h2))⟩⟩
    · exact hp1.elim
end
end Mi
set_option Elab.async false
set_option linter.all false
set_option maxRecDepth 100000
set_option maxHeartbeats 4000000
/-! Nh: enumerate over a tuple. -/
namespace Mt2
open PySem PySem.Spec PyProof.Rows L2
abbrev St := L2.St
theorem meets_new {v : Value} {o : Obj} {H : Heap → Prop} (B : Begins v o H) :
    Meets (Builtin.«enumerate.__new__» ⟨[.type "enumerate", v], []⟩) (fun _ R s => H s.heap ∧ R (.ok (.ret (.ref (s.heap.push o).objs.size))) { s with heap := (s.heap.push o).push { cls := .type "enumerate", data := .fields #[.none, .bool false, .ref s.heap.objs.size, rawInt 0, .none, .none] } }) :=
  .of_wp fun prog w A R s h => by
    obtain ⟨hp, g, d, tk, os⟩ := s
    obtain ⟨h1, h⟩ := h
    have hsub := sub_enumerate
    have q1 : ∀ {A' : Around} {E : Value → Shared → Prop} {Q : Value → Shared → Prop}, Q (.ref hp.objs.size) ⟨hp.push o, g, d, tk, os⟩ → wpAny (model prog w) A' (pyIter v) Q E ⟨hp, g, d, tk, os⟩ := fun q => B.iter prog w _ _ ⟨hp, g, d, tk, os⟩ _ h1 q
    wp_walk using q1
    refine wpAny_stack_any fun st => wpAny_pure ?_
    split
    · rename_i c _ _ _ _ _
      cases (c == Value.type "enumerate") <;> (wp_walk using q1; exact ⟨_, rfl, h⟩)
    · wp_walk using q1
      exact ⟨_, rfl, h⟩
theorem call_enumT {prog : Program} {w : World} {A : Around} {E : Value → Shared → Prop} {s : Shared} {v : Value} {o : Obj} {H : Heap → Prop} {Q : Value → Shared → Prop} (B : Begins v o H) (h1 : H s.heap)
    (h : ∀ h', IsEnum h' (s.heap.objs.size + 1) s.heap.objs.size 0 .none → h'.get? s.heap.objs.size = some o → h'.objs.size = s.heap.objs.size + 2 → (∀ b o, s.heap.get? b = some o → h'.get? b = some o) → Q (.ref (s.heap.objs.size + 1)) { s with heap := h' }) :
    wpAny (model prog w) A (call (.type "enumerate") [v]) Q E s := by
  refine callType_new F.called_enumerate (by decide) (F.typeCall_enumerate_1 _) (F.newCall_enumerate_1 _) (fun obj => F.args_object_init_2 obj _) F.entry_enumerate_new (meets_new B) ⟨h1, ?_⟩
  have hz : (s.heap.push o).objs.size = s.heap.objs.size + 1 := Heap.size_push ..
  show _ ∧ _
  rw [hz]
  have he : IsEnum ((s.heap.push o).push { cls := .type "enumerate", data := .fields #[.none, .bool false, .ref s.heap.objs.size, rawInt 0, .none, .none] }) (s.heap.objs.size + 1) s.heap.objs.size 0 .none := by
    have := Heap.get?_push_size (s.heap.push o) (o := { cls := .type "enumerate", data := .fields #[.none, .bool false, .ref s.heap.objs.size, rawInt 0, .none, .none] }) rfl
    rw [hz] at this; exact this
  exact ⟨⟨_, he, rfl⟩, h _ he (Heap.get?_push_of_some _ (Heap.get?_push_size _ B.free)) (by rw [Heap.size_push, hz]) fun b o x => Heap.get?_push_of_some _ (Heap.get?_push_of_some _ x)⟩
/-- the tuple at a, its items in new pairs with their numbers -/
def IteT (K : PySem.W.Frag) (a : Addr) : It :=
  ⟨fun i H => ∃ (xs : List V) (x : V), SqT K H a xs ∧ xs[i]? = some x, fun i H v H' => ∃ T x, v = .ref T ∧ H T = none ∧ H' = upd H T (.tup [.int (i : Nat), x]) ∧ ∀ xs, SqT K H a xs → xs[i]? = some x, fun i H => ∃ xs : List V, SqT K H a xs ∧ xs.length = i⟩
theorem tuple_inj {X : Cx} {pins : List (Addr × Obj)} {σ : St} {H : Hp} {s : Shared} {a : Addr} {xs ys : List V} (I : Inv X pins σ H s) (h1 : SqT X.K H a xs) (h2 : SqT X.K H a ys) : xs = ys := by
  first
  | exact I.tuple_inj h1 h2
  | exact (I.tuple_inj h2 h1).symm
theorem turn_enumT {P : Program} {w : World} {K : PySem.W.Frag} {elts : List Expr} {kk : Nat} {tpos : Pos} (a e it : Addr) (hae : a ≠ it) (hea : e ≠ a) :
    Turn P w K (.Tuple elts kk tpos) (IteT K a) [e, it] e (fun i h => (∃ old, IsEnum h e it ((i : Nat) : Int) old) ∧ h.IsTupleIter it a i ∧ e ≠ it) where
  mem := by simp
  obj := fun i h st b hb => by
    obtain ⟨⟨old, he⟩, ⟨o, ho, hc, hd⟩, _⟩ := st
    rcases (by simpa using hb : b = e ∨ b = it) with z | z
    · rw [z]; exact ⟨_, he, fun v q => nomatch q⟩
    · rw [z]; exact ⟨o, ho, fun v q => by rw [hd] at q; cases q⟩
  keep := fun i h h' st k => let ⟨⟨old, he⟩, hi, hne⟩ := st; ⟨⟨old, k e (by simp) _ he⟩, hi.at fun o q => k it (by simp) o q, hne⟩
  item := by
    intro X hP hw hK hc i pins s σ H E I hf st hg
    subst hP hw hK
    obtain ⟨⟨old, he⟩, hit, hne⟩ := st
    obtain ⟨xs, x, hq, hx⟩ := hg
    obtain ⟨its, rv, ht, hz⟩ := I.tuple hq
    obtain ⟨u, hu, ru⟩ := rv.get hx
    have hlt : i < its.toArray.size := by simpa using (List.getElem?_eq_some_iff.mp hu).1
    have hel : e < s.heap.objs.size := Heap.lt_size he
    have hil : it < s.heap.objs.size := by obtain ⟨_, q, _⟩ := hit; exact Heap.lt_size q
    refine wpAny_pyNext_enum_itemC (Draws.tuple (A := X.A.in1) (I.ok.hd hc) it a hae its.toArray) he ⟨hit, ht⟩ hlt hne (by simp [hne, hea]) fun u' h' tk hu' ho st' hT hsz hk => ?_
    have eu : u' = u := by
      have z : its.toArray[i]? = some u' := hu'
      rw [List.getElem?_toArray, hu] at z
      exact (Option.some.inj z).symm
    subst eu
    refine ⟨_, rfl, wpAny_letOwnedTupleGo_enum (s := { s with heap := h', toks := tk + 1 }) ho fun h'' he' sb => ?_⟩
    have hT2 : h''.get? s.heap.objs.size = some { cls := .type "tuple", data := .seq #[.int i tk, u'] } := (sb.2 _ (Nat.ne_of_gt hel)).trans hT
    have new : ObjOk X.prog X.w (upd H s.heap.objs.size (.tup [.int (i : Nat), x])) h'' s.heap.objs.size (.tup [.int (i : Nat), x]) := ⟨by show 2 ≤ sizeLine; decide, [.int i tk, u'], .cons ⟨_, rfl⟩ (.cons ru .nil), ⟨_, hT2, rfl, _, rfl⟩⟩
    have I1 : Inv X pins σ (upd H s.heap.objs.size (.tup [.int (i : Nat), x])) { s with heap := h'', toks := tk + 1 } :=
      I.turnedNew (ch := [e, it]) (fun b ob hb q => (sb.2 b (fun z => hb (by simp [z]))).trans (hk b ob (fun z => hb (by simp [z])) (fun z => hb (by simp [z])) q)) hf (Nat.le_refl _) new
    refine ⟨.ref s.heap.objs.size, _, I1, rfl, ⟨_, x, rfl, I.hok.fresh (Nat.le_refl _), rfl, fun ys hy => by rw [tuple_inj I hy hq]; exact hx⟩, ⟨⟨u', ?_⟩, st'.1.at fun o q => (sb.2 it (Ne.symm hne)).trans q, hne⟩, fun b hb => ?_⟩
    · have e1 : ((i + 1 : Nat) : Int) = (i : Int) + 1 := by omega
      rw [e1]; exact he'
    · have hb' : b < s.heap.objs.size := by
        rcases (by simpa using hb : b = e ∨ b = it) with z | z
        · rw [z]; exact hel
        · rw [z]; exact hil
      rw [upd_ne (Nat.ne_of_lt hb')]
      exact (hf b hb).1
  done := by
    intro X hP hw hK hc i pins s σ H E I hf st hg
    subst hP hw hK
    obtain ⟨⟨old, he⟩, hit, hne⟩ := st
    obtain ⟨xs, hq, hx⟩ := hg
    obtain ⟨its, rv, ht, hz⟩ := I.tuple hq
    obtain ⟨f0, f1, f2, f3, f4, f5⟩ := hf it (by simp)
    have hl := rv.length
    have en : its.toArray.size = i := by simp; omega
    exact wpAny_pyNext_enum_endD (Draws.tuple (A := X.A.in1) (I.ok.hd hc) it a hae its.toArray) he (by rw [en]; exact ⟨hit, ht⟩) fun h' eb => ⟨rfl, I.turned (t' := s.toks) (fun b o hb q => eb b o hb q) f0 f1 f3 f4 f5⟩
  self := fun A i s Q E st h => let ⟨⟨_, he⟩, _⟩ := st; wpAny_pyIter_enum he h
/-- a list or a tuple -/
def iEnumA (K : PySem.W.Frag) (ta : TA) : TI := fun σ H R => ta σ H fun vs H1 => ∃ a, vs = [.ref a] ∧ ((∃ xs, SqL K H1 a xs ∧ R (Ite K a) H1) ∨ ∃ xs, SqT K H1 a xs ∧ R (IteT K a) H1)
theorem pi_enumA {X : Cx} {e : Expr} {ta : TA} {p pos tpos : Pos} {elts : List Expr} {kk : Nat} (hg : Gl X "enumerate") (hm : X.mg "enumerate" = none) (ha : PA X [e] ta) (hs : starEach [e] X.env = [(false, eval e X.env)]) :
    PI X (.Tuple elts kk tpos) (.Call (.Name "enumerate" p) [e] [] pos) (iEnumA X.K ta) := by
  refine ⟨fun pins s σ H R I h => Call_ (ld_blt I hg hm boot_enumerate (PyProof.Rows.callWith_type1 (thn (ha.run pos pins s σ H _ I h) fun us s1 ⟨vs, H1, I1, r1, q1⟩ => ?_) hs rfl))⟩
  obtain ⟨a, rfl, q1⟩ := q1
  obtain rfl : us = [Value.ref a] := by
    cases r1 with
    | cons r rr => cases rr; cases r; rfl
  have fresh : ∀ b, b = s1.heap.objs.size + 1 ∨ b = s1.heap.objs.size → FpOk X pins H1 b := fun b e' => by
    have hle : s1.heap.objs.size ≤ b := by
      rcases e' with z | z
      · rw [z]; exact Nat.le_add_right _ _
      · rw [z]; exact Nat.le_refl _
    exact I1.fpOk hle (I1.hok.fresh hle)
  rcases q1 with ⟨xs, hq, q⟩ | ⟨xs, hq, q⟩
  · obtain ⟨its, rv, p', hz⟩ := I1.list hq
    refine call_enumerate_list p'.isList fun h' he hit hsz hk => wpAny_pyIter_enum he ?_
    have I2 : Inv X pins σ H1 { s1 with heap := h' } := I1.kept (t' := s1.toks) hk
    exact ⟨s1.heap.objs.size + 1, [s1.heap.objs.size + 1, s1.heap.objs.size], _, _, H1, rfl, I2, turn_enum a (s1.heap.objs.size + 1) s1.heap.objs.size, ⟨⟨.none, he⟩, hit, Nat.succ_ne_self _⟩, fun b hb => fresh b (by simpa using hb), q⟩
  · obtain ⟨its, rv, ht, hz⟩ := I1.tuple hq
    have hlt : a < s1.heap.objs.size := by obtain ⟨_, e, _⟩ := ht; exact Heap.lt_size e
    refine call_enumT (begins_tuple a its.toArray) ht fun h' he hit hsz hk => wpAny_pyIter_enum he ?_
    have I2 : Inv X pins σ H1 { s1 with heap := h' } := I1.kept (t' := s1.toks) hk
    exact ⟨s1.heap.objs.size + 1, [s1.heap.objs.size + 1, s1.heap.objs.size], _, _, H1, rfl, I2, turn_enumT a (s1.heap.objs.size + 1) s1.heap.objs.size (Nat.ne_of_lt hlt) (Nat.ne_of_gt (Nat.lt_succ_of_lt hlt)), ⟨⟨.none, he⟩, ⟨_, hit, rfl, rfl⟩, Nat.succ_ne_self _⟩, fun b hb => fresh b (by simpa using hb), q⟩
theorem walk_enumT {K : PySem.W.Frag} {a : Addr} {xs : List V} : Walk (IteT K a) xs.length (fun H => SqT K H a xs) (YPair (fun i => some (.int (i : Nat))) (fun i => xs[i]?)) := by
  refine ⟨fun i _ hi q => ⟨xs, xs[i], q, by simp [hi]⟩, fun _ q => ⟨xs, q, rfl⟩, fun i H v H' _ q y => ?_⟩
  obtain ⟨T, x, h1, h2, h3, h4⟩ := y
  exact ⟨T, .int (i : Nat), x, h1, h2, h3, rfl, h4 xs q⟩
end Mt2
set_option Elab.async false
set_option linter.all false
set_option maxRecDepth 100000
set_option maxHeartbeats 4000000
/-! Mt: targets, what is walked, comprehensions. -/
namespace Mi
open PySem PySem.Spec PyProof.Rows L2 RZ
theorem PG.imp {X : Cx} {e : Expr} {t t' : TG} (h : PG X e t) (i : ∀ v σ H Q, t' v σ H Q → t v σ H Q) : PG X e t' := ⟨fun pins s σ H v u Q I r q => h.run pins s σ H v u Q I r (i v σ H Q q)⟩
/-- a target: data goes to its slots -/
def gT (K : PySem.W.Frag) (mg : Str → Option Value) (T : List (Addr × Str)) (tg : Tg) : TG := fun v σ H Q => ∃ ι Z Zf δ x δ', SR K mg ι Z Zf H δ σ ∧ Rp K mg ι Z H x v ∧ tg.put x δ = some δ' ∧
  ∀ σ', SR K mg ι Z Zf H δ' σ' → (∀ vs, (∀ i ∈ tg.slots, i ∈ vs) → wipe σ' vs = wipe σ vs) → Q σ' H
theorem wipe_set {σ : L2.St} {i : Nat} {x : Option V} : ∀ {vs : List Nat}, i ∈ vs → wipe (σ.set i x) vs = wipe σ vs
  | v :: vs, h => by
    unfold wipe
    by_cases hi : i ∈ vs
    · rw [wipe_set hi]
    · have hv : i = v := by
        rcases List.mem_cons.mp h with e | e
        · exact e
        · exact absurd e hi
      subst hv
      have comm : ∀ (ws : List Nat), i ∉ ws → (wipe (σ.set i x) ws).set i none = (wipe σ ws).set i none := by
        intro ws
        induction ws with
        | nil => intro _; show (σ.set i x).set i none = σ.set i none; rw [List.set_set]
        | cons w ws ih =>
          intro hw
          simp only [List.mem_cons, not_or] at hw
          show ((wipe (σ.set i x) ws).set w none).set i none = ((wipe σ ws).set w none).set i none
          rw [List.set_comm _ _ (fun e => hw.1 e.symm), ih hw.2, List.set_comm _ _ hw.1]
      exact comm vs hi
theorem put_pair {s t : Tg} {x : D} {δ δ' : List Sl} (h : (Tg.pair s t).put x δ = some δ') : ∃ y z δ1, x = .tup [y, z] ∧ s.put y δ = some δ1 ∧ t.put z δ1 = some δ' := by
  match x, h with
  | .tup [y, z], h =>
    simp only [Tg.put, Option.bind_eq_some_iff] at h
    obtain ⟨δ1, p1, p2⟩ := h
    exact ⟨y, z, δ1, rfl, p1, p2⟩
theorem put_trip {s t u : Tg} {x : D} {δ δ' : List Sl} (h : (Tg.trip s t u).put x δ = some δ') : ∃ y z w δ1 δ2, x = .tup [y, z, w] ∧ s.put y δ = some δ1 ∧ t.put z δ1 = some δ2 ∧ u.put w δ2 = some δ' := by
  match x, h with
  | .tup [y, z, w], h =>
    simp only [Tg.put, Option.bind_eq_some_iff] at h
    obtain ⟨δ1, p1, δ2, p2, p3⟩ := h
    exact ⟨y, z, w, δ1, δ2, rfl, p1, p2, p3⟩
section
variable {X : Cx} {T : List (Addr × Str)} {W : WX} {pos : Pos}
theorem mg_name {i : Nat} {x : Str} (hN : X.N.Nodup) (hi : X.N[i]? = some x) (hx : Loc X.env.scope x) (hf : X.fn x = true ∨ X.env.scope.names.lookup x = some .local) : PG X (.Name x pos) (gT X.K X.mg T (.name i)) :=
  PG.imp (pg_name hN hi hx hf) fun v σ H Q h => by
    obtain ⟨ι, Z, Zf, δ, x, δ', sr, r, hp, q⟩ := h
    simp only [Tg.put, Option.some.injEq] at hp
    subst hp
    exact q _ (sr.set r) fun vs hv => wipe_set (hv i (by simp [Tg.slots]))
theorem mg_pair {a b : Expr} {s t : Tg} {k : Nat} (hc : X.calm = true) (ha : PG X a (gT X.K X.mg T s)) (hb : PG X b (gT X.K X.mg T t))
    (hn : (assignEach [a, b] X.env).length = 2) (hst : (assignEach [a, b] X.env).findIdx? (·.1) = none)
    (h1 : (assignEach [a, b] X.env).map (·.2) = assign a X.env :: (assignEach [b] X.env).map (·.2)) (h2 : (assignEach [b] X.env).map (·.2) = assign b X.env :: (assignEach [] X.env).map (·.2)) :
    PG X (.Tuple [a, b] k pos) (gT X.K X.mg T (.pair s t)) :=
  PG.imp (pg_tup hc (pgs_cons ha (pgs_cons hb pgs_nil h2) h1) hn hst) fun v σ H Q h => by
    obtain ⟨ι, Z, Zf, δ, x, δ', sr, r, hp, q⟩ := h
    obtain ⟨y, z, δ1, rfl, p1, p2⟩ := put_pair hp
    obtain ⟨p, vs, rfl, h1, h2⟩ := r
    obtain ⟨u, w, rfl, r1, r2⟩ := h2.two
    refine ⟨p, [u, w], rfl, h1.sq, rfl, u, [w], rfl, ι, Z, Zf, δ, y, δ1, sr, r1, p1, fun σ1 sr1 w1 => ?_⟩
    refine ⟨w, [], rfl, ι, Z, Zf, δ1, z, δ', sr1, r2, p2, fun σ2 sr2 w2 => ⟨rfl, q σ2 sr2 fun vs hv => ?_⟩⟩
    rw [w2 vs (fun i hi => hv i (by simp [Tg.slots, hi])), w1 vs (fun i hi => hv i (by simp [Tg.slots, hi]))]
theorem mg_trip {a b c : Expr} {s t w : Tg} {k : Nat} (hc : X.calm = true) (ha : PG X a (gT X.K X.mg T s)) (hb : PG X b (gT X.K X.mg T t)) (hd : PG X c (gT X.K X.mg T w))
    (hn : (assignEach [a, b, c] X.env).length = 3) (hst : (assignEach [a, b, c] X.env).findIdx? (·.1) = none)
    (h1 : (assignEach [a, b, c] X.env).map (·.2) = assign a X.env :: (assignEach [b, c] X.env).map (·.2)) (h2 : (assignEach [b, c] X.env).map (·.2) = assign b X.env :: (assignEach [c] X.env).map (·.2))
    (h3 : (assignEach [c] X.env).map (·.2) = assign c X.env :: (assignEach [] X.env).map (·.2)) :
    PG X (.Tuple [a, b, c] k pos) (gT X.K X.mg T (.trip s t w)) :=
  PG.imp (pg_tup hc (pgs_cons ha (pgs_cons hb (pgs_cons hd pgs_nil h3) h2) h1) hn hst) fun v σ H Q h => by
    obtain ⟨ι, Z, Zf, δ, x, δ', sr, r, hp, q⟩ := h
    obtain ⟨y, z, y3, δ1, δ2, rfl, p1, p2, p3⟩ := put_trip hp
    obtain ⟨p, vs, rfl, h1, h2⟩ := r
    obtain ⟨u, vs', rfl, r1, h2⟩ := h2
    obtain ⟨u2, u3, rfl, r2, r3⟩ := Rps.two h2
    refine ⟨p, [u, u2, u3], rfl, h1.sq, rfl, u, [u2, u3], rfl, ι, Z, Zf, δ, y, δ1, sr, r1, p1, fun σ1 sr1 w1 => ?_⟩
    refine ⟨u2, [u3], rfl, ι, Z, Zf, δ1, z, δ2, sr1, r2, p2, fun σ2 sr2 w2 => ?_⟩
    refine ⟨u3, [], rfl, ι, Z, Zf, δ2, y3, δ', sr2, r3, p3, fun σ3 sr3 w3 => ⟨rfl, q σ3 sr3 fun vs hv => ?_⟩⟩
    rw [w3 vs (fun i hi => hv i (by simp [Tg.slots, hi])), w2 vs (fun i hi => hv i (by simp [Tg.slots, hi])), w1 vs (fun i hi => hv i (by simp [Tg.slots, hi]))]
end
/-! ### what is walked -/
/-- J walks the data xs, from the heap H on, while what is at ι and Z may change -/
def WK (K : PySem.W.Frag) (mg : Str → Option Value) (J : L2.It) (xs : List D) (ι Z : List Addr) (H : Hp) : Prop := ∃ (G : Hp → Prop) (Y : Nat → Hp → V → Hp → Prop), L2.Walk J xs.length G Y ∧
  (∀ ι2 Zf H2, Ext ι Zf H ι2 H2 → (∀ z ∈ Zf, z ∈ Z) → G H2) ∧
  (∀ i d ι2 Zf Z2 H2 H3 x, xs[i]? = some d → Ext ι Zf H ι2 H2 → (∀ z ∈ Zf, z ∈ Z) → (∀ z ∈ Z2, z ∈ Z ∨ H z = none) → Y i H2 x H3 → (H3 = H2 ∨ ∃ p o, H2 p = none ∧ H3 = upd H2 p o) ∧ Rp K mg ι2 Z2 H3 d x)
theorem ext_all {K : PySem.W.Frag} {mg : Str → Option Value} {ι Z ι2 Zf Z2 : List Addr} {H H2 : Hp} {ds : List D} {vs : List V} (h : Rps K mg ι Z H ds vs) (e : Ext ι Zf H ι2 H2) (hf : ∀ z ∈ Zf, z ∈ Z) (hz : ∀ z ∈ Z2, z ∈ Z ∨ H z = none) : Rps K mg ι2 Z2 H2 ds vs := Rps.ext e hf hz ds vs h
theorem wk_tup {K : PySem.W.Frag} {mg : Str → Option Value} {ι Z : List Addr} {H : Hp} {a : Addr} {ds : List D} {vs : List V} (h1 : TupAt K H a vs) (h2 : Rps K mg ι Z H ds vs) : WK K mg (Itt K a) ds ι Z H := by
  refine ⟨_, _, by rw [h2.length]; exact walk_tup (xs := vs), fun ι2 Zf H2 e _ => (h1.ext e).sq, fun i d ι2 Zf Z2 H2 H3 x hd e hf hz y => ?_⟩
  obtain ⟨rfl, y⟩ := y
  obtain ⟨v, h3, h4⟩ := (ext_all h2 e hf hz).get hd
  rw [y] at h3; cases h3
  exact ⟨.inl rfl, h4⟩
theorem wk_lst {K : PySem.W.Frag} {mg : Str → Option Value} {ι Z : List Addr} {H : Hp} {a : Addr} {ds : List D} {vs : List V} (h1 : H a = some (.lst vs) ∧ a ∉ ι ∧ a ∉ Z) (h2 : Rps K mg ι Z H ds vs) : WK K mg (Itl K a) ds ι Z H := by
  refine ⟨_, _, by rw [h2.length]; exact walk_list (xs := vs), fun ι2 Zf H2 e hf => SqL.of (e.keep a _ h1.1 h1.2.1 (fun z => h1.2.2 (hf a z)) (fun _ z => by cases z)), fun i d ι2 Zf Z2 H2 H3 x hd e hf hz y => ?_⟩
  obtain ⟨rfl, y⟩ := y
  obtain ⟨v, h3, h4⟩ := (ext_all h2 e hf hz).get hd
  rw [y] at h3; cases h3
  exact ⟨.inl rfl, h4⟩
theorem wk_rng {K : PySem.W.Frag} {mg : Str → Option Value} {ι Z : List Addr} {H : Hp} {i j : Int} : WK K mg (Itr i (j - i).toNat) (rgD i j) ι Z H := by
  have hl : (rgD i j).length = (j - i).toNat := by simp [rgD]
  refine ⟨_, _, by rw [hl]; exact walk_range, fun _ _ _ _ _ => trivial, fun n d ι2 Zf Z2 H2 H3 x hd e hf hz y => ?_⟩
  obtain ⟨rfl, rfl⟩ := y
  have hn : n < (j - i).toNat := by rw [← hl]; exact (List.getElem?_eq_some_iff.mp hd).1
  simp only [rgD, List.getElem?_map, List.getElem?_range hn, Option.map_some, Option.some.injEq] at hd
  subst hd
  exact ⟨.inl rfl, rfl⟩
theorem pair_at {K : PySem.W.Frag} {mg : Str → Option Value} {ι Z : List Addr} {H : Hp} {p : Addr} {x y : D} {v w : V} (hp : H p = none) (h1 : Rp K mg ι Z H x v) (h2 : Rp K mg ι Z H y w) : Rp K mg ι Z (upd H p (.tup [v, w])) (.tup [x, y]) (.ref p) :=
  Rp.newT hp ⟨v, [w], rfl, h1, w, [], rfl, h2, rfl⟩
theorem wk_zipT {K : PySem.W.Frag} {mg : Str → Option Value} {ι Z : List Addr} {H : Hp} {a b : Addr} {ds es : List D} {vs ws : List V} (h1 : TupAt K H a vs) (h2 : Rps K mg ι Z H ds vs) (h3 : TupAt K H b ws) (h4 : Rps K mg ι Z H es ws) : WK K mg (ItzT K a b) (zipD ds es) ι Z H := by
  have hl : (zipD ds es).length = min vs.length ws.length := by simp [zipD, h2.length, h4.length]
  refine ⟨fun H => SqT K H a vs ∧ SqT K H b ws, YPair (fun i => vs[i]?) (fun i => ws[i]?), ?_, fun ι2 Zf H2 e _ => ⟨(h1.ext e).sq, (h3.ext e).sq⟩, fun i d ι2 Zf Z2 H2 H3 x hd e hf hz y => ?_⟩
  · rw [hl]
    refine ⟨fun i _ hi q => ?_, fun _ q => ⟨vs, ws, q.1, q.2, by omega⟩, fun i H v H' _ q y => ?_⟩
    · have h1 : i < vs.length := by omega
      have h2 : i < ws.length := by omega
      exact ⟨vs, ws, vs[i], ws[i], q.1, q.2, by simp [h1], by simp [h2]⟩
    · obtain ⟨T, x, z, h1, h2, h3, h4, h5⟩ := y
      exact ⟨T, x, z, h1, h2, h3, h4 vs q.1, h5 ws q.2⟩
  · obtain ⟨p, u, u2, rfl, hp, rfl, e1, e2⟩ := y
    simp only [zipD, List.getElem?_zipWith] at hd
    split at hd
    · rename_i x y ex ey
      cases hd
      obtain ⟨v, g1, r1⟩ := (ext_all h2 e hf hz).get ex
      obtain ⟨w, g2, r2⟩ := (ext_all h4 e hf hz).get ey
      have e1' := e1.symm.trans g1; cases e1'
      have e2' := e2.symm.trans g2; cases e2'
      exact ⟨.inr ⟨p, _, hp, rfl⟩, pair_at hp r1 r2⟩
    · cases hd
theorem wk_zipL {K : PySem.W.Frag} {mg : Str → Option Value} {ι Z : List Addr} {H : Hp} {a b : Addr} {ds es : List D} {vs ws : List V} (h1 : H a = some (.lst vs) ∧ a ∉ ι ∧ a ∉ Z) (h2 : Rps K mg ι Z H ds vs) (h3 : H b = some (.lst ws) ∧ b ∉ ι ∧ b ∉ Z) (h4 : Rps K mg ι Z H es ws) : WK K mg (Itz K a b) (zipD ds es) ι Z H := by
  have hl : (zipD ds es).length = min vs.length ws.length := by simp [zipD, h2.length, h4.length]
  refine ⟨fun H => SqL K H a vs ∧ SqL K H b ws, YPair (fun i => vs[i]?) (fun i => ws[i]?), by rw [hl]; exact walk_zip rfl,
    fun ι2 Zf H2 e hf => ⟨SqL.of (e.keep a _ h1.1 h1.2.1 (fun z => h1.2.2 (hf a z)) (fun _ z => by cases z)), SqL.of (e.keep b _ h3.1 h3.2.1 (fun z => h3.2.2 (hf b z)) (fun _ z => by cases z))⟩, fun i d ι2 Zf Z2 H2 H3 x hd e hf hz y => ?_⟩
  obtain ⟨p, u, u2, rfl, hp, rfl, e1, e2⟩ := y
  simp only [zipD, List.getElem?_zipWith] at hd
  split at hd
  · rename_i x y ex ey
    cases hd
    obtain ⟨v, g1, r1⟩ := (ext_all h2 e hf hz).get ex
    obtain ⟨w, g2, r2⟩ := (ext_all h4 e hf hz).get ey
    have e1' := e1.symm.trans g1; cases e1'
    have e2' := e2.symm.trans g2; cases e2'
    exact ⟨.inr ⟨p, _, hp, rfl⟩, pair_at hp r1 r2⟩
  · cases hd
theorem wk_enumL {K : PySem.W.Frag} {mg : Str → Option Value} {ι Z : List Addr} {H : Hp} {a : Addr} {ds : List D} {vs : List V} (h1 : H a = some (.lst vs) ∧ a ∉ ι ∧ a ∉ Z) (h2 : Rps K mg ι Z H ds vs) : WK K mg (Ite K a) (enumD ds) ι Z H := by
  have hl : (enumD ds).length = vs.length := by simp [enumD, h2.length]
  refine ⟨_, _, by rw [hl]; exact walk_enum (xs := vs), fun ι2 Zf H2 e hf => SqL.of (e.keep a _ h1.1 h1.2.1 (fun z => h1.2.2 (hf a z)) (fun _ z => by cases z)), fun i d ι2 Zf Z2 H2 H3 x hd e hf hz y => ?_⟩
  obtain ⟨p, u, u2, rfl, hp, rfl, e1, e2⟩ := y
  simp only [enumD, List.getElem?_zipWith] at hd
  split at hd
  · rename_i n y ex ey
    cases hd
    have hi : i < ds.length := (List.getElem?_eq_some_iff.mp ey).1
    rw [List.getElem?_range hi] at ex
    cases ex
    obtain ⟨w, g2, r2⟩ := (ext_all h2 e hf hz).get ey
    have e2' := e2.symm.trans g2; cases e2'
    cases e1
    exact ⟨.inr ⟨p, _, hp, rfl⟩, pair_at hp (show Rp K mg ι2 Z2 H2 (.int i) (.int i) from rfl) r2⟩
  · cases hd
theorem wk_enumT {K : PySem.W.Frag} {mg : Str → Option Value} {ι Z : List Addr} {H : Hp} {a : Addr} {ds : List D} {vs : List V} (h1 : TupAt K H a vs) (h2 : Rps K mg ι Z H ds vs) : WK K mg (Mt2.IteT K a) (enumD ds) ι Z H := by
  have hl : (enumD ds).length = vs.length := by simp [enumD, h2.length]
  refine ⟨_, _, by rw [hl]; exact Mt2.walk_enumT (xs := vs), fun ι2 Zf H2 e hf => (h1.ext e).sq, fun i d ι2 Zf Z2 H2 H3 x hd e hf hz y => ?_⟩
  obtain ⟨p, u, u2, rfl, hp, rfl, e1, e2⟩ := y
  simp only [enumD, List.getElem?_zipWith] at hd
  split at hd
  · rename_i n y ex ey
    cases hd
    have hi : i < ds.length := (List.getElem?_eq_some_iff.mp ey).1
    rw [List.getElem?_range hi] at ex
    cases ex
    obtain ⟨w, g2, r2⟩ := (ext_all h2 e hf hz).get ey
    have e2' := e2.symm.trans g2; cases e2'
    cases e1
    exact ⟨.inr ⟨p, _, hp, rfl⟩, pair_at hp (show Rp K mg ι2 Z2 H2 (.int i) (.int i) from rfl) r2⟩
  · cases hd
section
variable {X : Cx} {T : List (Addr × Str)} {W : WX} {pos : Pos} {tg : Expr}
/-- a list or a tuple, walked -/
def iBoth (K : PySem.W.Frag) (tl : TE) : TI := fun σ H R => tl σ H fun x H1 => ∃ a, x = .ref a ∧ ((∃ xs, SqL K H1 a xs) ∧ R (Itl K a) H1 ∨ (∃ xs, SqT K H1 a xs) ∧ R (Itt K a) H1)
theorem pi_both {l : Expr} {tl : TE} (hl : PE X l tl) : PI X tg l (iBoth X.K tl) := by
  refine ⟨fun pins s σ H R I h => ?_⟩
  refine thn (hl.run pins s σ H _ I h) fun v s1 ⟨x, H1, I1, r1, q1⟩ => ?_
  obtain ⟨a, e, q⟩ := q1
  subst e
  cases r1
  rcases q with ⟨⟨xs, hq⟩, q⟩ | ⟨⟨xs, hq⟩, q⟩
  · obtain ⟨its, rv, p, hz⟩ := I1.list hq
    refine wpAny_pyIter_list p.isList ?_
    refine ⟨s1.heap.objs.size, [s1.heap.objs.size], _, _, H1, rfl, I1.kept (t' := s1.toks) fun b o e => Heap.get?_push_of_some _ e, turn_list a _, ⟨_, Heap.get?_push_size _ rfl, rfl, rfl⟩, fun b hb => ?_, q⟩
    have e : b = s1.heap.objs.size := by simpa using hb
    subst e
    exact I1.fpOk (Nat.le_refl _) (I1.hok.fresh (Nat.le_refl _))
  · obtain ⟨its, rv, p, hz⟩ := I1.tuple hq
    refine wpAny_pyIter_tuple (show s1.heap.IsTuple a its.toArray from p) ?_
    refine ⟨s1.heap.objs.size, [s1.heap.objs.size], _, _, H1, rfl, I1.kept (t' := s1.toks) fun b o e => Heap.get?_push_of_some _ e, turn_tuple a _, ⟨_, Heap.get?_push_size _ rfl, rfl, rfl⟩, fun b hb => ?_, q⟩
    have e : b = s1.heap.objs.size := by simpa using hb
    subst e
    exact I1.fpOk (Nat.le_refl _) (I1.hok.fresh (Nat.le_refl _))
abbrev tI (K : PySem.W.Frag) (mg : Str → Option Value) (T : List (Addr × Str)) (W : WX) (it : It) : TI := tR K mg T W (fun ι Z H (xs : List D) (J : L2.It) => WK K mg J xs ι Z H) (evi it)
theorem PI.imp {e : Expr} {t t' : TI} (h : PI X tg e t) (i : ∀ σ H Q, t' σ H Q → t σ H Q) : PI X tg e t' := ⟨fun pins s σ H Q I q => h.run pins s σ H Q I (i σ H Q q)⟩
theorem seqD_cases {d : D} {xs : List D} (h : seqD [] d = some xs) : d = .tup xs ∨ d = .lst xs := by
  unfold seqD at h
  rcases see_cases [] d with e | ⟨n, ys, _, z, _⟩
  · rw [e] at h
    split at h <;> cases h
    · exact .inl rfl
    · exact .inr rfl
  · simp at z
theorem mi_seq {e : Expr} {ce : E} (h : PE X e (tE X.K X.mg T W ce)) : PI X tg e (tI X.K X.mg T W (.seq ce)) :=
  PI.imp (pi_both h) fun σ H R hh => by
    obtain ⟨ι, Z, Zf, μ, δ, g, sr, hp⟩ := hh
    refine ⟨ι, Z, Zf, μ, δ, g, sr, post.bind hp fun x μ1 ι1 v H1 e1 g1 r1 hp1 => ?_⟩
    unfold optR at hp1
    cases ho : seqD [] x with
    | none => rw [ho] at hp1; exact hp1.elim
    | some xs =>
      rw [ho] at hp1
      rcases seqD_cases ho with rfl | rfl
      · obtain ⟨a, vs, rfl, h1, h2⟩ := r1
        exact ⟨a, rfl, .inr ⟨⟨vs, h1.sq⟩, post.ret hp1 g1 (wk_tup h1 h2)⟩⟩
      · obtain ⟨a, vs, rfl, h1, h2⟩ := r1
        exact ⟨a, rfl, .inl ⟨⟨vs, SqL.of h1.1⟩, post.ret hp1 g1 (wk_lst h1 h2)⟩⟩
theorem mi_rng {a : Expr} {ca : E} {p : Pos} (hg : Gl X "range") (hm : X.mg "range" = none) (ha : PA X [a] (tEs X.K X.mg T W (.cons ca .nil))) (hs : starEach [a] X.env = [(false, eval a X.env)]) : PI X tg (.Call (.Name "range" p) [a] [] pos) (tI X.K X.mg T W (.rng ca)) :=
  PI.imp (pi_range1 hg hm ha hs) fun σ H R hh => by
    obtain ⟨ι, Z, Zf, μ, δ, g, sr, hp⟩ := hh
    have e : evi (.rng ca) δ μ = bindR (evs (.cons ca .nil) δ μ) fun xs μ => match xs with
      | [.int j] => if rgOk 0 j = true then retR (rgD 0 j) μ else none
      | _ => none := by
      simp only [evi, evs]
      cases ev ca δ μ with
      | none => rfl
      | some r =>
        obtain ⟨r, μ1⟩ := r
        cases r with
        | error e => rfl
        | ok d => cases d <;> rfl
    rw [e] at hp
    refine ⟨ι, Z, Zf, μ, δ, g, sr, post.bind hp fun xs μ1 ι1 vs H1 e1 g1 r1 hp1 => ?_⟩
    split at hp1
    · rename_i j
      split at hp1
      · rename_i hj
        obtain ⟨v, rfl, hv⟩ := r1.one
        have hv' : v = V.int j := hv
        subst hv'
        unfold rgOk at hj
        simp only [Bool.and_eq_true, decide_eq_true_eq] at hj
        refine ⟨j, rfl, hj.1.2, hj.2, ?_⟩
        have := wk_rng (K := X.K) (mg := X.mg) (ι := ι1) (Z := Z) (H := H1) (i := 0) (j := j)
        rw [Int.sub_zero] at this
        exact post.ret hp1 g1 this
      · exact hp1.elim
    · exact hp1.elim
theorem mi_rng2 {a b : Expr} {ca cb : E} {p : Pos} (hg : Gl X "range") (hm : X.mg "range" = none) (ha : PA X [a, b] (tEs X.K X.mg T W (.cons ca (.cons cb .nil)))) (hs : starEach [a, b] X.env = [(false, eval a X.env), (false, eval b X.env)]) (hs2 : starEach [b] X.env = [(false, eval b X.env)]) :
    PI X tg (.Call (.Name "range" p) [a, b] [] pos) (tI X.K X.mg T W (.rng2 ca cb)) :=
  PI.imp (pi_range2 hg hm ha hs hs2) fun σ H R hh => by
    obtain ⟨ι, Z, Zf, μ, δ, g, sr, hp⟩ := hh
    have e : evi (.rng2 ca cb) δ μ = bindR (evs (.cons ca (.cons cb .nil)) δ μ) fun xs μ => match xs with
      | [.int i, .int j] => if rgOk i j = true then retR (rgD i j) μ else none
      | _ => none := by
      simp only [evi, evs]
      cases ev ca δ μ with
      | none => rfl
      | some r =>
        obtain ⟨r, μ1⟩ := r
        cases r with
        | error e => rfl
        | ok d =>
          simp only [bindR]
          cases ev cb δ μ1 with
          | none => rfl
          | some r =>
            obtain ⟨r, μ2⟩ := r
            cases r with
            | error e => rfl
            | ok d2 => cases d <;> cases d2 <;> rfl
    rw [e] at hp
    refine ⟨ι, Z, Zf, μ, δ, g, sr, post.bind hp fun xs μ1 ι1 vs H1 e1 g1 r1 hp1 => ?_⟩
    split at hp1
    · rename_i i j
      split at hp1
      · rename_i hj
        obtain ⟨v, w, rfl, hv, hw⟩ := r1.two
        have hv' : v = V.int i := hv
        have hw' : w = V.int j := hw
        subst hv' hw'
        unfold rgOk at hj
        simp only [Bool.and_eq_true, decide_eq_true_eq] at hj
        exact ⟨i, j, rfl, ⟨hj.1.1.1, hj.1.1.2, hj.1.2, hj.2⟩, post.ret hp1 g1 wk_rng⟩
      · exact hp1.elim
    · exact hp1.elim
theorem mi_zip {e e2 : Expr} {c1 c2 : E} {p tpos : Pos} {elts : List Expr} {kk : Nat} (hg : Gl X "zip") (hm : X.mg "zip" = none) (ha : PA X [e, e2] (tEs X.K X.mg T W (.cons c1 (.cons c2 .nil))))
    (hs : starEach [e, e2] X.env = (false, eval e X.env) :: starEach [e2] X.env) (hpl : (backTo pos (starEach [e2] X.env)).any (·.1) = false) :
    PI X (.Tuple elts kk tpos) (.Call (.Name "zip" p) [e, e2] [] pos) (tI X.K X.mg T W (.zip c1 c2)) :=
  PI.imp (pi_zipA hg hm ha hs hpl) fun σ H R hh => by
    obtain ⟨ι, Z, Zf, μ, δ, g, sr, hp⟩ := hh
    have e : evi (.zip c1 c2) δ μ = bindR (evs (.cons c1 (.cons c2 .nil)) δ μ) fun xs μ => match xs with
      | [x, y] => optR (zipK x y) μ
      | _ => none := by
      simp only [evi, evs]
      cases ev c1 δ μ with
      | none => rfl
      | some r =>
        obtain ⟨r, μ1⟩ := r
        cases r with
        | error e => rfl
        | ok d =>
          simp only [bindR]
          cases ev c2 δ μ1 with
          | none => rfl
          | some r =>
            obtain ⟨r, μ2⟩ := r
            cases r with
            | error e => rfl
            | ok d2 => rfl
    rw [e] at hp
    refine ⟨ι, Z, Zf, μ, δ, g, sr, post.bind hp fun xs μ1 ι1 vs H1 e1 g1 r1 hp1 => ?_⟩
    split at hp1
    · rename_i x y
      obtain ⟨v, w, rfl, hv, hw⟩ := r1.two
      unfold optR at hp1
      cases ho : zipK x y with
      | none => rw [ho] at hp1; exact hp1.elim
      | some zs =>
        rw [ho] at hp1
        unfold zipK at ho
        split at ho <;> cases ho
        · obtain ⟨a, vs, rfl, h1, h2⟩ := hv
          obtain ⟨b, ws, rfl, h3, h4⟩ := hw
          exact ⟨a, b, vs, ws, rfl, .inl ⟨SqL.of h1.1, SqL.of h3.1, post.ret hp1 g1 (wk_zipL h1 h2 h3 h4)⟩⟩
        · obtain ⟨a, vs, rfl, h1, h2⟩ := hv
          obtain ⟨b, ws, rfl, h3, h4⟩ := hw
          exact ⟨a, b, vs, ws, rfl, .inr ⟨h1.sq, h3.sq, post.ret hp1 g1 (wk_zipT h1 h2 h3 h4)⟩⟩
    · exact hp1.elim
theorem mi_enum {e : Expr} {c1 : E} {p tpos : Pos} {elts : List Expr} {kk : Nat} (hg : Gl X "enumerate") (hm : X.mg "enumerate" = none) (ha : PA X [e] (tEs X.K X.mg T W (.cons c1 .nil)))
    (hs : starEach [e] X.env = [(false, eval e X.env)]) : PI X (.Tuple elts kk tpos) (.Call (.Name "enumerate" p) [e] [] pos) (tI X.K X.mg T W (.enum c1)) :=
  PI.imp (Mt2.pi_enumA hg hm ha hs) fun σ H R hh => by
    obtain ⟨ι, Z, Zf, μ, δ, g, sr, hp⟩ := hh
    have e : evi (.enum c1) δ μ = bindR (evs (.cons c1 .nil) δ μ) fun xs μ => match xs with
      | [x] => optR (enumK x) μ
      | _ => none := by
      simp only [evi, evs]
      cases ev c1 δ μ with
      | none => rfl
      | some r =>
        obtain ⟨r, μ1⟩ := r
        cases r with
        | error e => rfl
        | ok d => rfl
    rw [e] at hp
    refine ⟨ι, Z, Zf, μ, δ, g, sr, post.bind hp fun xs μ1 ι1 vs H1 e1 g1 r1 hp1 => ?_⟩
    split at hp1
    · rename_i x
      obtain ⟨v, rfl, hv⟩ := r1.one
      unfold optR at hp1
      cases ho : enumK x with
      | none => rw [ho] at hp1; exact hp1.elim
      | some zs =>
        rw [ho] at hp1
        unfold enumK at ho
        split at ho <;> cases ho
        · obtain ⟨a, vs, rfl, h1, h2⟩ := hv
          exact ⟨a, rfl, .inl ⟨vs, SqL.of h1.1, post.ret hp1 g1 (wk_enumL h1 h2)⟩⟩
        · obtain ⟨a, vs, rfl, h1, h2⟩ := hv
          exact ⟨a, rfl, .inr ⟨vs, h1.sq, post.ret hp1 g1 (wk_enumT h1 h2)⟩⟩
    · exact hp1.elim
end
/-! ### comprehensions -/
section
variable {X : Cx} {T : List (Addr × Str)} {W : WX} {pos : Pos}
theorem SR.extZ {K : PySem.W.Frag} {mg : Str → Option Value} {ι Z Zf ι' Z' : List Addr} {H H' : Hp} {μ : List Mo} {δ : List Sl} {σ : L2.St} (g : RG K mg T ι Z H μ) (s : SR K mg ι Z Zf H δ σ) (e : Ext ι [] H ι' H') (hz : ∀ z ∈ Z', z ∈ Z ∨ H z = none) (hf : ∀ z ∈ Z, z ∈ Z') : SR K mg ι' Z' Zf H' δ σ := by
  refine ⟨s.len, fun i x hx => ?_, s.apart, fun z h => hf z (s.sub z h)⟩
  have h := s.ok i x hx
  cases x with
  | un => trivial
  | d x => obtain ⟨v, h1, h2⟩ := h; exact ⟨v, h1, Rp.ext e (by simp) hz x v h2⟩
  | lin xs =>
    obtain ⟨a, vs, h1, h2, h3, h4⟩ := h
    exact ⟨a, vs, h1, h2, e.keep a _ h3 (g.zl a (s.sub a h2)).2 (by simp) (fun _ z => by cases z), Rps.ext e (by simp) hz _ _ h4⟩
theorem ext_updZ {ι : List Addr} {H : Hp} {z : Addr} {vs ws : List V} (h : H z = some (.lst vs)) : Ext ι [z] H ι (upd H z (.lst ws)) := by
  refine ⟨⟨[], by simp, by simp⟩, fun a o q _ n _ => ?_, fun a o q => ?_, fun a xs q => ?_⟩
  · rw [upd_ne (by simpa using n)]; exact q
  · by_cases e : a = z
    · subst e; exact ⟨_, upd_same⟩
    · exact ⟨o, by rw [upd_ne e]; exact q⟩
  · have : a ≠ z := fun e => by subst e; rw [h] at q; cases q
    rw [upd_ne this]; exact q
theorem RG.updZ {K : PySem.W.Frag} {mg : Str → Option Value} {ι Z : List Addr} {H : Hp} {μ : List Mo} (g : RG K mg T ι Z H μ) {z : Addr} {vs ws : List V} (hz : z ∈ Z) (h : H z = some (.lst vs)) : RG K mg T ι Z (upd H z (.lst ws)) μ := by
  have e := ext_updZ (ι := ι) (ws := ws) h
  refine ⟨g.nd, g.len, fun n m hm => ?_, fun y hy => ⟨?_, (g.zl y hy).2⟩, ?_⟩
  · obtain ⟨a, h1, h2⟩ := g.mem n m hm
    refine ⟨a, h1, h2.ext e (by simpa using hz) (fun _ q => .inl q) (upd_ne fun q => (g.zl z hz).2 ?_)⟩
    rw [← q]; exact List.mem_of_getElem? h1
  · by_cases q : y = z
    · subst q; exact ⟨ws, upd_same⟩
    · obtain ⟨us, hu⟩ := (g.zl y hy).1
      exact ⟨us, by rw [upd_ne q]; exact hu⟩
  · intro p hp
    obtain ⟨ps, h1, h2, h3⟩ := g.tabs p hp
    refine ⟨ps, ?_, h2, fun pos cv hc => ?_⟩
    · rw [upd_ne (ne_of h1 h (by simp))]; exact h1
    · obtain ⟨c, e1, e2⟩ := h3 pos cv hc
      exact ⟨c, e1, by rw [upd_ne (ne_of e2 h (by unfold LamX.CodeO; simp))]; exact e2⟩
theorem RG.weakZ {K : PySem.W.Frag} {mg : Str → Option Value} {ι Z Z' : List Addr} {H : Hp} {μ : List Mo} (g : RG K mg T ι Z H μ) (h : ∀ z ∈ Z', z ∈ Z) : RG K mg T ι Z' H μ :=
  ⟨g.nd, g.len, fun n m hm => let ⟨a, h1, h2⟩ := g.mem n m hm; ⟨a, h1, h2.ext (Zf := []) Ext.refl (by simp) (fun z q => .inl (h z q)) rfl⟩, fun z q => g.zl z (h z q), g.tabs⟩
/-- one address more that is held by one name alone -/
theorem RG.consZ {K : PySem.W.Frag} {mg : Str → Option Value} {ι Z : List Addr} {H : Hp} {μ : List Mo} (g : RG K mg T ι Z H μ) {p : Addr} {vs : List V} (hp : H p = none) : RG K mg T ι (p :: Z) (upd H p (.lst vs)) μ := by
  have g1 : RG K mg T ι Z (upd H p (.lst vs)) μ := g.fresh hp
  have e : Ext ι [] H ι (upd H p (.lst vs)) := ext_fresh hp
  refine ⟨g.nd, g.len, fun n m hm => ?_, fun z hz => ?_, g1.tabs⟩
  · obtain ⟨a, h1, h2⟩ := g.mem n m hm
    obtain ⟨u, q, _⟩ := h2.at
    refine ⟨a, h1, h2.ext e (by simp) (fun z q => ?_) (upd_ne (ne_of_none q hp))⟩
    rcases List.mem_cons.mp q with q | q
    · rw [q]; exact .inr hp
    · exact .inl q
  · rcases List.mem_cons.mp hz with q | q
    · subst q; exact ⟨⟨vs, upd_same⟩, (g.notin hp).1⟩
    · exact g1.zl z q
theorem takesF {X : Cx} : L2N.Takes X (fun _ _ _ _ => False) := fun _ _ x => by
  obtain ⟨_, _, _, _, _, _, _, _, _, _, _, _, _, _, _, _, z⟩ := x
  exact z.elim
theorem wipe_in {σ : L2.St} {i : Nat} (hl : i < σ.length) : ∀ {vs : List Nat}, i ∈ vs → (wipe σ vs)[i]? = some none
  | v :: vs, h => by
    unfold wipe
    by_cases e : v = i
    · subst e
      rw [List.getElem?_set_self (by rw [wipe_length]; exact hl)]
    · rw [List.getElem?_set_ne e]
      rcases List.mem_cons.mp h with q | q
      · exact absurd q.symm e
      · exact wipe_in hl q
theorem wipe_wipe (σ : L2.St) (vs : List Nat) : wipe (wipe σ vs) vs = wipe σ vs := by
  refine List.ext_getElem? fun i => ?_
  by_cases h : i ∈ vs
  · by_cases hl : i < σ.length
    · rw [wipe_in (by rw [wipe_length]; exact hl) h, wipe_in hl h]
    · rw [List.getElem?_eq_none (by rw [wipe_length, wipe_length]; omega), List.getElem?_eq_none (by rw [wipe_length]; omega)]
  · rw [wipe_out h]
abbrev WF : WX := fun _ _ _ _ => False
theorem noE_post {α β : Type} {K : PySem.W.Frag} {mg : Str → Option Value} {rel : List Addr → List Addr → Hp → α → β → Prop} {ι Z : List Addr} {H : Hp} {Q : β → Hp → Prop} {r : RM α} {a : α} {μ : List Mo} {W : Value → Option Addr → Hp → Prop} (e : noE r = some (a, μ)) (h : ∀ ι' b H', Ext ι [] H ι' H' → RG K mg T ι' Z H' μ → rel ι' Z H' a b → Q b H') : post K mg T rel ι Z H r Q W := by
  match r, e with
  | some (.ok a, μ), e => cases e; exact h
theorem to_comp {ct : Tg} {ci : It} {cc ce : E} {vs : List Nat} (hsl : ∀ i ∈ ct.slots, i ∈ vs) {σ : L2.St} {H : Hp} {Q : VK} (hh : tE X.K X.mg T W (.comp ce ct ci cc vs) σ H Q) :
    tLc (tI X.K X.mg T W ci) (gT X.K X.mg T ct) (tT X.K X.mg T WF cc) (tE X.K X.mg T WF ce) vs σ H Q := by
  obtain ⟨ι, Z, Zf, μ, δ, g, sr, hp⟩ := hh
  refine ⟨ι, Z, Zf, μ, δ, g, sr, post.bind hp fun xs μ1 ι1 J H1 e1 g1 wk hp1 => ?_⟩
  intro D hD
  obtain ⟨G, Y, wlk, hG, hY⟩ := wk
  have sr1 := sr.ext g e1
  have hz0 : ∀ z ∈ D :: Z, z ∈ Z ∨ H1 z = none := fun z q => by
    rcases List.mem_cons.mp q with q | q
    · rw [q]; exact .inr hD
    · exact .inl q
  have hDZ : D ∉ Z := (g1.notin hD).2
  refine lc_it wlk (fun i H2 => ∃ ι2 μ2 acc av, Ext ι1 [] H1 ι2 H2 ∧ RG X.K X.mg T ι2 (D :: Z) H2 μ2 ∧ H2 D = some (.lst av) ∧ Rps X.K X.mg ι2 (D :: Z) H2 acc av ∧ post X.K X.mg T (Rp X.K X.mg) ι1 Z H1 (compL ct (ev cc) (ev ce) (wipeS δ vs) (xs.drop i) acc μ2) Q (WS W σ))
    ⟨ι1, μ1, [], [], ext_fresh hD, g1.consZ hD, upd_same, rfl, by simpa using hp1⟩ (fun i H2 _ ⟨ι2, μ2, acc, av, e2, _⟩ => hG ι2 [] H2 e2 (by simp)) ?_ ?_
  · rintro i x H2 H3 hi ⟨ι2, μ2, acc, av, e2, g2, hD2, ra, hp2⟩ y
    obtain ⟨d, hd⟩ : ∃ d, xs[i]? = some d := ⟨xs[i], List.getElem?_eq_getElem hi⟩
    obtain ⟨hh, rd⟩ := hY i d ι2 [] (D :: Z) H2 H3 x hd e2 (by simp) hz0 y
    have st3 : Ext ι2 [] H2 ι2 H3 ∧ RG X.K X.mg T ι2 (D :: Z) H3 μ2 ∧ H3 D = some (.lst av) := by
      rcases hh with rfl | ⟨p, o, hpn, rfl⟩
      · exact ⟨Ext.refl, g2, hD2⟩
      · exact ⟨ext_fresh hpn, g2.fresh hpn, by rw [upd_ne (ne_of_none hD2 hpn)]; exact hD2⟩
    obtain ⟨e3, g3, hD3⟩ := st3
    have ed : xs.drop i = d :: xs.drop (i + 1) := by
      rw [List.drop_eq_getElem_cons hi]
      congr 1
      have := List.getElem?_eq_getElem hi
      rw [hd] at this; exact (Option.some.inj this).symm
    rw [ed] at hp2
    unfold compL at hp2
    have e13 : Ext ι1 [] H1 ι2 H3 := e2.trans0 e3
    have sr3 : SR X.K X.mg ι2 (D :: Z) Zf H3 δ σ := sr1.extZ g1 e13 hz0 (fun z q => List.mem_cons_of_mem _ q)
    cases h1 : ct.put d (wipeS δ vs) with
    | none => rw [h1] at hp2; exact hp2.elim
    | some δ1 =>
      rw [h1] at hp2
      simp only [Option.bind_some] at hp2
      cases h2 : noE (ev cc δ1 μ2) with
      | none => rw [h2] at hp2; exact hp2.elim
      | some r =>
        obtain ⟨k, μ3⟩ := r
        rw [h2] at hp2
        simp only [Option.bind_some] at hp2
        refine ⟨ι2, D :: Z, Zf, wipeS δ vs, d, δ1, sr3.wipe vs, rd, h1, fun σ2 sr4 hw => ⟨by rw [hw vs hsl]; exact wipe_wipe σ vs, ?_⟩⟩
        cases k with
        | bl k =>
          refine ⟨ι2, D :: Z, Zf, μ2, δ1, g3, sr4, ?_⟩
          have h2' : noE (evT cc δ1 μ2) = some (k, μ3) := by
            unfold evT
            match hq : ev cc δ1 μ2, h2 with
            | some (.ok (.bl k'), μ'), h2 => simp only [noE, Option.some.injEq, Prod.mk.injEq, Mi.D.bl.injEq] at h2; obtain ⟨rfl, rfl⟩ := h2; rfl
          refine noE_post h2' fun ι5 b H5 e5 g5 hb => ?_
          subst hb
          have hD5 : H5 D = some (.lst av) := e5.keep D _ hD3 (g3.zl D (List.mem_cons_self ..)).2 (by simp) (fun _ z => by cases z)
          cases k with
          | false =>
            exact iteF ⟨ι5, μ3, acc, av, e13.trans0 e5, g5, hD5, (ra.ext0 e3).ext0 e5, hp2⟩
          | true =>
            simp only at hp2
            cases h3 : noE (ev ce δ1 μ3) with
            | none => rw [h3] at hp2; exact hp2.elim
            | some r =>
              obtain ⟨q, μ4⟩ := r
              rw [h3] at hp2
              simp only [Option.bind_some] at hp2
              split at hp2
              · rename_i hl
                refine iteT ⟨ι5, D :: Z, Zf, μ3, δ1, g5, sr4.ext g3 e5, noE_post h3 fun ι6 y6 H6 e6 g6 r6 => ?_⟩
                have hD6 : H6 D = some (.lst av) := e6.keep D _ hD5 (g5.zl D (List.mem_cons_self ..)).2 (by simp) (fun _ z => by cases z)
                have ra6 := ((ra.ext0 e3).ext0 e5).ext0 e6
                have eU := ext_updZ (ι := ι6) (ws := av ++ [y6]) hD6
                have sub : ∀ z ∈ [D], z ∈ D :: Z := by simp
                refine ⟨av, hD6, by rw [← ra.length]; exact hl, ι6, μ4, acc ++ [q], av ++ [y6], ?_, g6.updZ (List.mem_cons_self ..) hD6, upd_same, ?_, hp2⟩
                · exact ((e13.trans0 e5).trans0 e6).trans eU (fun z q => .inr (by rw [List.mem_singleton.mp q]; exact hD))
                · exact Rps.append (Rps.ext eU sub (fun z q => .inl q) _ _ ra6) ⟨y6, [], rfl, Rp.ext eU sub (fun z q => .inl q) _ _ r6, rfl⟩
              · exact hp2.elim
        | _ => exact hp2.elim
  · rintro H2 ⟨ι2, μ2, acc, av, e2, g2, hD2, ra, hp2⟩
    rw [List.drop_length] at hp2
    have hDι : D ∉ ι2 := (g2.zl D (List.mem_cons_self ..)).2
    exact hp2 ι2 _ H2 e2 (g2.weakZ fun z q => List.mem_cons_of_mem _ q) ⟨D, av, rfl, ⟨hD2, hDι, hDZ⟩, ra.weak fun z q => List.mem_cons_of_mem _ q⟩
theorem m_comp {elt iter : Expr} {tg : Expr} {ifs : List Expr} {scope : Scope} {own : List (Str × Nat)} {ct : Tg} {ci : It} {cc ce : E} (hc : X.calm = true) (hN : X.N.Nodup) (hi : PI X tg iter (tI X.K X.mg T W ci)) (ok : BlkOk X.N X.env.scope scope own)
    (hg : ∀ (s : Shared) (H : Hp) (C : Addr) (cl : List (Str × Addr)) (fp : List Addr), PG (X.blk s H scope (compEnvC scope cl C X.env) fp) tg (gT X.K X.mg T ct))
    (ht : ∀ (s : Shared) (H : Hp) (C : Addr) (cl : List (Str × Addr)) (fp : List Addr), PTs (X.blk s H scope (compEnvC scope cl C X.env) fp) ifs (tT X.K X.mg T WF cc))
    (he : ∀ (s : Shared) (H : Hp) (C : Addr) (cl : List (Str × Addr)) (fp : List Addr), PE (X.blk s H scope (compEnvC scope cl C X.env) fp) elt (tE X.K X.mg T WF ce)) (hs : ∀ x, foldedSetIterable iter X.env x = pure x)
    (vs : List Nat) (hvs : vs = own.map (·.2)) (hsl : ∀ i ∈ ct.slots, i ∈ vs) : PE X (.ListComp elt [⟨tg, iter, ifs, 0⟩] scope pos) (tE X.K X.mg T W (.comp ce ct ci cc vs)) :=
  PE.imp (pe_lc hc hN hi ok hg ht he hs) fun σ H Q hh => by
    rw [← hvs]
    exact to_comp hsl hh
end
end Mi
set_option Elab.async false
set_option linter.all false
set_option maxRecDepth 100000
set_option maxHeartbeats 4000000
/-! Mu: statements, a def's body. -/
namespace Mi
open PySem PySem.Spec PyProof.Rows L2 RZ
/-- the state of a body: Zf the lists that its own names hold alone, Zo those of others -/
structure SX (K : PySem.W.Frag) (mg : Str → Option Value) (T : List (Addr × Str)) (ι Zo Zf : List Addr) (H : Hp) (μ : List Mo) (δ : List Sl) (σ : L2.St) : Prop where
  g : RG K mg T ι (Zo ++ Zf) H μ
  s : SR K mg ι (Zo ++ Zf) Zf H δ σ
  dj : ∀ z ∈ Zf, z ∉ Zo
/-- what comes of a statement -/
def pS (K : PySem.W.Frag) (mg : Str → Option Value) (T : List (Addr × Str)) (W : WX) (r : SM) (ι Zo Zf : List Addr) (H : Hp) (D : Ends) : Prop := match r with
  | none => False
  | some (fl, δ', μ') => ∀ ι' Zf' σ' H', Ext ι Zf H ι' H' → (∀ z ∈ Zf', z ∈ Zf ∨ H z = none) → SX K mg T ι' Zo Zf' H' μ' δ' σ' → match fl with
    | .nx => D.nx σ' H'
    | .bk => D.bk σ' H'
    | .ct => D.ct σ' H'
    | .rt d => ∀ v, Rp K mg ι' (Zo ++ Zf') H' d v → D.rt v H'
    | .ex e => ∀ cv dx, XR mg e cv dx H' → W cv dx σ' H'
def tX (K : PySem.W.Frag) (mg : Str → Option Value) (T : List (Addr × Str)) (W : WX) (f : List Sl → List Mo → SM) : TS := fun D σ H => ∃ ι Zo Zf μ δ, SX K mg T ι Zo Zf H μ δ σ ∧ pS K mg T W (f δ μ) ι Zo Zf H D
abbrev tS (K : PySem.W.Frag) (mg : Str → Option Value) (T : List (Addr × Str)) (W : WX) (c : St) : TS := tX K mg T W (ex c)
abbrev tSs (K : PySem.W.Frag) (mg : Str → Option Value) (T : List (Addr × Str)) (W : WX) (c : Ss) : TS := tX K mg T W (exs c)
theorem PS.imp {X : Cx} {e : Stmt} {t t' : TS} (h : PS X e t) (i : ∀ D σ H, t' D σ H → t D σ H) : PS X e t' := ⟨fun pins s σ H D I q => h.run pins s σ H D I (i D σ H q)⟩
theorem PSs.imp {X : Cx} {e : List Stmt} {t t' : TS} (h : PSs X e t) (i : ∀ D σ H, t' D σ H → t D σ H) : PSs X e t' := ⟨fun pins s σ H D I q => h.run pins s σ H D I (i D σ H q)⟩
section
variable {K : PySem.W.Frag} {mg : Str → Option Value} {T : List (Addr × Str)} {W : WX} {ι Zo Zf ι1 Zf1 : List Addr} {H H1 : Hp} {D D' : Ends} {r : SM}
theorem pS.mono (h : pS K mg T W r ι Zo Zf H D) (e : Ext ι Zf H ι1 H1) (hz : ∀ z ∈ Zf1, z ∈ Zf ∨ H z = none) : pS K mg T W r ι1 Zo Zf1 H1 D := by
  match r, h with
  | some (fl, δ', μ'), h =>
    intro ι' Zf' σ' H' e' hz' s
    refine h ι' Zf' σ' H' (e.trans e' hz) (fun z hq => ?_) s
    rcases hz' z hq with q | q
    · exact hz z q
    · exact .inr (e.free q)
theorem pS.nx {δ : List Sl} {σ : L2.St} {μ : List Mo} (h : pS K mg T W (some (.nx, δ, μ)) ι Zo Zf H D) (s : SX K mg T ι Zo Zf H μ δ σ) : D.nx σ H := h ι Zf σ H Ext.refl (fun _ z => .inl z) s
/-- an expression first -/
theorem pS.thenE {α β : Type} {rel : List Addr → List Addr → Hp → α → β → Prop} {x : RM α} {δ : List Sl} {σ : L2.St} {μ : List Mo} {f : α → List Mo → SM} {Q : β → Hp → Prop} (h : pS K mg T W (thenE x δ f) ι Zo Zf H D) (s : SX K mg T ι Zo Zf H μ δ σ)
    (q : ∀ a μ1 ι1 b H1, Ext ι [] H ι1 H1 → rel ι1 (Zo ++ Zf) H1 a b → SX K mg T ι1 Zo Zf H1 μ1 δ σ → pS K mg T W (f a μ1) ι1 Zo Zf H1 D → Q b H1) : post K mg T rel ι (Zo ++ Zf) H x Q (WS W σ) := by
  match x, h with
  | some (.error e, μ1), h =>
    intro ι1 H1 cv dx e1 g1 xr
    exact h ι1 Zf σ H1 (e1.mono (by simp)) (fun _ z => .inl z) ⟨g1, s.s.ext s.g e1, s.dj⟩ cv dx xr
  | some (.ok a, μ1), h =>
    intro ι1 b H1 e1 g1 r1
    exact q a μ1 ι1 b H1 e1 r1 ⟨g1, s.s.ext s.g e1, s.dj⟩ (h.mono (e1.mono (by simp)) fun _ z => .inl z)
end
section
variable {X : Cx} {T : List (Addr × Str)} {W : WX} {pos : Pos} {e : Expr} {ce : E}
theorem s_pass : PS X (.Pass pos) (tS X.K X.mg T W .pass) := PS.imp ps_pass fun D σ H h => by
  obtain ⟨ι, Zo, Zf, μ, δ, s, hp⟩ := h
  simp only [ex] at hp
  exact hp.nx s
theorem s_doc {x j pos'} : PS X (.Expr (.Constant (.str x) j pos) pos') (tS X.K X.mg T W .pass) := PS.imp ps_doc fun D σ H h => by
  obtain ⟨ι, Zo, Zf, μ, δ, s, hp⟩ := h
  simp only [ex] at hp
  exact hp.nx s
theorem s_brk : PS X (.Break pos) (tS X.K X.mg T W .brk) := PS.imp ps_break fun D σ H h => by
  obtain ⟨ι, Zo, Zf, μ, δ, s, hp⟩ := h
  simp only [ex] at hp
  exact hp ι Zf σ H Ext.refl (fun _ z => .inl z) s
theorem s_cont : PS X (.Continue pos) (tS X.K X.mg T W .cont) := PS.imp ps_continue fun D σ H h => by
  obtain ⟨ι, Zo, Zf, μ, δ, s, hp⟩ := h
  simp only [ex] at hp
  exact hp ι Zf σ H Ext.refl (fun _ z => .inl z) s
theorem s_expr (he : PE X e (tE X.K X.mg T W ce)) (hs : swapsWith e none pos.line X.env = pure false) : PS X (.Expr e pos) (tS X.K X.mg T W (.expr ce)) :=
  PS.imp (ps_expr he hs) fun D σ H h => by
    obtain ⟨ι, Zo, Zf, μ, δ, s, hp⟩ := h
    simp only [ex] at hp
    exact ⟨ι, Zo ++ Zf, Zf, μ, δ, s.g, s.s, hp.thenE s fun a μ1 ι1 b H1 e1 r1 s1 h1 => h1.nx s1⟩
theorem s_ret (he : PE X e (tE X.K X.mg T W ce)) : PS X (.Return (some e) pos) (tS X.K X.mg T W (.ret ce)) :=
  PS.imp (ps_ret he) fun D σ H h => by
    obtain ⟨ι, Zo, Zf, μ, δ, s, hp⟩ := h
    simp only [ex] at hp
    exact ⟨ι, Zo ++ Zf, Zf, μ, δ, s.g, s.s, hp.thenE s fun a μ1 ι1 b H1 e1 r1 s1 h1 => h1 ι1 Zf σ H1 Ext.refl (fun _ z => .inl z) s1 b r1⟩
theorem s_retn : PS X (.Return none pos) (tS X.K X.mg T W .retn) := PS.imp ps_retN fun D σ H h => by
  obtain ⟨ι, Zo, Zf, μ, δ, s, hp⟩ := h
  simp only [ex] at hp
  exact hp ι Zf σ H Ext.refl (fun _ z => .inl z) s .non rfl
/-- behind a target -/
theorem put_nx {ct : Tg} {x : Mi.D} {v : V} {ι Zo Zf : List Addr} {μ : List Mo} {δ : List Sl} {σ : L2.St} {H : Hp} {D : Ends} (s : SX X.K X.mg T ι Zo Zf H μ δ σ) (r : Rp X.K X.mg ι (Zo ++ Zf) H x v)
    {f : List Sl → SM} (hp : pS X.K X.mg T W ((ct.put x δ).bind f) ι Zo Zf H D) {Q : L2.St → Hp → Prop} (q : ∀ δ' σ', SX X.K X.mg T ι Zo Zf H μ δ' σ' → pS X.K X.mg T W (f δ') ι Zo Zf H D → Q σ' H) : gT X.K X.mg T ct v σ H Q := by
  cases h : ct.put x δ with
  | none => rw [h] at hp; exact hp.elim
  | some δ' =>
    rw [h] at hp
    exact ⟨ι, Zo ++ Zf, Zf, δ, x, δ', s.s, r, h, fun σ' s' _ => q δ' σ' ⟨s.g, s', s.dj⟩ hp⟩
theorem to_set {ct : Tg} {D : Ends} {σ : L2.St} {H : Hp} (h : tS X.K X.mg T W (.set ct ce) D σ H) : tAsg (tE X.K X.mg T W ce) (gT X.K X.mg T ct) D σ H := by
  obtain ⟨ι, Zo, Zf, μ, δ, s, hp⟩ := h
  simp only [ex] at hp
  exact ⟨ι, Zo ++ Zf, Zf, μ, δ, s.g, s.s, hp.thenE s fun a μ1 ι1 b H1 e1 r1 s1 h1 => put_nx s1 r1 h1 fun δ' σ' s' h' => h'.nx s'⟩
theorem s_set {tg : Expr} {ct : Tg} (he : PE X e (tE X.K X.mg T W ce)) (hg : PG X tg (gT X.K X.mg T ct)) (hs : swapsWithSole [tg] e pos.line X.env = pure false) (hw : swappedStores [tg] e X.env = pure none) (h1 : (assignEach [tg] X.env).map (·.2) = [assign tg X.env]) :
    PS X (.Assign [tg] e pos) (tS X.K X.mg T W (.set ct ce)) := PS.imp (ps_asg he hg hs hw h1) fun D σ H h => to_set h
/-- name = [..] where the comprehension stores at once -/
theorem s_setLc {i : Nat} {y : Str} {py cpos : Pos} {elt iter : Expr} {tg : Expr} {ifs : List Expr} {scope : Scope} {own : List (Str × Nat)} {ct : Tg} {ci : It} {cc ce : E} (hc : X.calm = true) (hN : X.N.Nodup) (hy : X.N[i]? = some y) (hyl : X.env.scope.names.lookup y = some .local)
    (hsw : swapsWith (.ListComp elt [⟨tg, iter, ifs, 0⟩] scope cpos) (some (.Name y py)) pos.line X.env = pure true) (hi : PI X tg iter (tI X.K X.mg T W ci)) (ok : BlkOk X.N X.env.scope scope own)
    (hg : ∀ (s : Shared) (H : Hp) (C : Addr) (cl : List (Str × Addr)) (fp : List Addr), PG (X.blk s H scope (compEnvC scope cl C X.env) fp) tg (gT X.K X.mg T ct))
    (ht : ∀ (s : Shared) (H : Hp) (C : Addr) (cl : List (Str × Addr)) (fp : List Addr), PTs (X.blk s H scope (compEnvC scope cl C X.env) fp) ifs (tT X.K X.mg T WF cc))
    (he : ∀ (s : Shared) (H : Hp) (C : Addr) (cl : List (Str × Addr)) (fp : List Addr), PE (X.blk s H scope (compEnvC scope cl C X.env) fp) elt (tE X.K X.mg T WF ce)) (hs : ∀ x, foldedSetIterable iter X.env x = pure x)
    (vs : List Nat) (hvs : vs = own.map (·.2)) (hsl : ∀ i ∈ ct.slots, i ∈ vs) : PS X (.Assign [.Name y py] (.ListComp elt [⟨tg, iter, ifs, 0⟩] scope cpos) pos) (tS X.K X.mg T W (.set (.name i) (.comp ce ct ci cc vs))) :=
  PS.imp (ps_setLc hc hN hy hyl hsw hi ok hg ht he hs) fun D σ H h => by
    rw [← hvs]
    have h2 : tE X.K X.mg T W (.comp ce ct ci cc vs) σ H fun x H1 => gName i x σ H1 D.nx := by
      obtain ⟨ι, Zo, Zf, μ, δ, s, hp⟩ := h
      simp only [ex] at hp
      refine ⟨ι, Zo ++ Zf, Zf, μ, δ, s.g, s.s, hp.thenE s fun a μ1 ι1 b H1 e1 r1 s1 h1 => ?_⟩
      simp only [Tg.put, Option.bind_some] at h1
      exact h1.nx ⟨s1.g, s1.s.set r1, s1.dj⟩
    exact to_comp hsl h2
/-- a, b = x, y stored from the right -/
theorem s_par {i j : Nat} {x y : Str} {a b : Expr} {ca : Es} {px py pt : Pos} {kt k2 pt2} (hc : X.calm = true) (hN : X.N.Nodup) (hi : X.N[i]? = some x) (hj : X.N[j]? = some y) (hij : i ≠ j)
    (hx : X.env.scope.names.lookup x = some .local) (hy : X.env.scope.names.lookup y = some .local) (ha : PA X [a, b] (tEs X.K X.mg T W ca))
    (hw : swappedStores [.Tuple [.Name x px, .Name y py] kt pt] (.Tuple [a, b] k2 pt2) X.env = pure (some [x, y]))
    (hs : swapsWithSole [.Tuple [.Name x px, .Name y py] kt pt] (.Tuple [a, b] k2 pt2) pos.line X.env = pure false) :
    PS X (.Assign [.Tuple [.Name x px, .Name y py] kt pt] (.Tuple [a, b] k2 pt2) pos) (tS X.K X.mg T W (.set (.pair (.name i) (.name j)) (.tup ca))) :=
  PS.imp (ps_par hc hN hi hj hij hx hy ha hw hs) fun D σ H h => by
    obtain ⟨ι, Zo, Zf, μ, δ, s, hp⟩ := h
    simp only [ex, ev] at hp
    refine ⟨ι, Zo ++ Zf, Zf, μ, δ, s.g, s.s, ?_⟩
    have hp2 : pS X.K X.mg T W (thenE (evs ca δ μ) δ fun xs μ => if xs.length ≤ sizeLine then ((Tg.pair (.name i) (.name j)).put (.tup xs) δ).bind fun δ => some (.nx, δ, μ) else none) ι Zo Zf H D := by
      cases h : evs ca δ μ with
      | none => rw [h] at hp; exact hp
      | some r =>
        obtain ⟨r, μ1⟩ := r
        cases r with
        | error e => rw [h] at hp; exact hp
        | ok xs =>
          rw [h] at hp
          simp only [bindR] at hp
          split at hp
          · rename_i hz; simp only [if_pos hz]; exact hp
          · exact hp.elim
    refine hp2.thenE s fun xs μ1 ι1 vs H1 e1 r1 s1 h1 => ?_
    split at h1
    · cases hq : (Tg.pair (.name i) (.name j)).put (.tup xs) δ with
      | none => rw [hq] at h1; exact h1.elim
      | some δ' =>
        obtain ⟨u, w, δ1, e, p1, p2⟩ := put_pair hq
        cases e
        rw [hq] at h1
        simp only [Tg.put, Option.some.injEq] at p1 p2
        subst p1 p2
        obtain ⟨v, v', rfl, r2, r3⟩ := r1.two
        exact ⟨v, v', rfl, h1.nx ⟨s1.g, (s1.s.set r2).set r3, s1.dj⟩⟩
    · exact h1.elim
theorem s_if {c : Expr} {a b : List Stmt} {cc : E} {ca cb : Ss} (hc : PT X c (tT X.K X.mg T W cc)) (ha : PSs X a (tSs X.K X.mg T W ca)) (hb : PSs X b (tSs X.K X.mg T W cb)) : PS X (.If c a b pos) (tS X.K X.mg T W (.ite cc ca cb)) :=
  PS.imp (ps_if hc ha hb) fun D σ H h => by
    obtain ⟨ι, Zo, Zf, μ, δ, s, hp⟩ := h
    have hp2 : pS X.K X.mg T W (thenE (evT cc δ μ) δ fun k μ => if k = true then exs ca δ μ else exs cb δ μ) ι Zo Zf H D := by
      simp only [ex] at hp
      unfold evT
      cases h : ev cc δ μ with
      | none => rw [h] at hp; exact hp
      | some r =>
        obtain ⟨r, μ1⟩ := r
        cases r with
        | error e => rw [h] at hp; exact hp
        | ok d =>
          rw [h] at hp
          cases d with
          | bl k => cases k <;> exact hp
          | _ => exact hp
    refine ⟨ι, Zo ++ Zf, Zf, μ, δ, s.g, s.s, hp2.thenE s fun k μ1 ι1 k' H1 e1 r1 s1 h1 => ?_⟩
    subst r1
    cases k with
    | true => exact iteT ⟨ι1, Zo, Zf, μ1, δ, s1, h1⟩
    | false => exact iteF ⟨ι1, Zo, Zf, μ1, δ, s1, h1⟩
/-! ### blocks -/
theorem ss_nil : PSs X [] (tSs X.K X.mg T W .nil) := PSs.imp pss_nil fun D σ H h => by
  obtain ⟨ι, Zo, Zf, μ, δ, s, hp⟩ := h
  simp only [exs] at hp
  exact hp.nx s
theorem ss_cons {st : Stmt} {rest : List Stmt} {c : St} {cs : Ss} (h1 : PS X st (tS X.K X.mg T W c)) (h2 : PSs X rest (tSs X.K X.mg T W cs)) : PSs X (st :: rest) (tSs X.K X.mg T W (.cons c cs)) :=
  PSs.imp (pss_cons h1 h2) fun D σ H h => by
    obtain ⟨ι, Zo, Zf, μ, δ, s, hp⟩ := h
    simp only [exs] at hp
    refine ⟨ι, Zo, Zf, μ, δ, s, ?_⟩
    match hq : ex c δ μ, hp with
    | some (.nx, δ1, μ1), hp => exact fun ι1 Zf1 σ1 H1 e1 z1 s1 => ⟨ι1, Zo, Zf1, μ1, δ1, s1, pS.mono hp e1 z1⟩
    | some (.bk, δ1, μ1), hp => exact hp
    | some (.ct, δ1, μ1), hp => exact hp
    | some (.rt d, δ1, μ1), hp => exact hp
    | some (.ex e, δ1, μ1), hp => exact hp
/-- a list that one name alone held is given out: nobody changes it from here on -/
theorem ss_still {i : Nat} {rest : List Stmt} {cs : Ss} (h2 : PSs X rest (tSs X.K X.mg T W cs)) : PSs X rest (tSs X.K X.mg T W (.cons (.still i) cs)) :=
  PSs.imp h2 fun D σ H h => by
    obtain ⟨ι, Zo, Zf, μ, δ, s, hp⟩ := h
    simp only [exs, ex] at hp
    cases hi : δ[i]? with
    | none => rw [hi] at hp; exact hp.elim
    | some x =>
      rw [hi] at hp
      cases x with
      | lin xs =>
        obtain ⟨a, vs, h1, h2, h3, h4⟩ := s.s.ok i _ hi
        have hl : i < δ.length := (List.getElem?_eq_some_iff.mp hi).1
        have sub1 : ∀ z ∈ Zf.filter (fun z => decide (z ≠ a)), z ∈ Zf := fun z q => (List.mem_filter.mp q).1
        have sub : ∀ z ∈ Zo ++ Zf.filter (fun z => decide (z ≠ a)), z ∈ Zo ++ Zf := fun z q => by
          rcases List.mem_append.mp q with q | q
          · exact List.mem_append_left _ q
          · exact List.mem_append_right _ (sub1 z q)
        have na : a ∉ Zo ++ Zf.filter (fun z => decide (z ≠ a)) := fun q => by
          rcases List.mem_append.mp q with q | q
          · exact s.dj a h2 q
          · have := (List.mem_filter.mp q).2
            simp at this
        refine ⟨ι, Zo, Zf.filter (fun z => decide (z ≠ a)), μ, δ.set i (.d (.lst xs)), ⟨s.g.weakZ sub, ?_, fun z q => s.dj z (sub1 z q)⟩, pS.mono hp Ext.refl fun z q => .inl (sub1 z q)⟩
        refine ⟨by rw [List.length_set]; exact s.s.len, fun j y hy => ?_, fun j k ys zs b q1 q2 q3 q4 => ?_, fun z q => List.mem_append_right _ q⟩
        · by_cases e : i = j
          · subst e
            rw [List.getElem?_set_self hl] at hy
            cases hy
            exact ⟨.ref a, h1, a, vs, rfl, ⟨h3, (s.g.zl a (List.mem_append_right _ h2)).2, na⟩, h4.weak sub⟩
          · rw [List.getElem?_set_ne e] at hy
            have hj := s.s.ok j y hy
            cases y with
            | un => trivial
            | d x => obtain ⟨v, e1, e2⟩ := hj; exact ⟨v, e1, e2.weak sub⟩
            | lin ys =>
              obtain ⟨b, ws, e1, e2, e3, e4⟩ := hj
              refine ⟨b, ws, e1, List.mem_filter.mpr ⟨e2, decide_eq_true fun q => ?_⟩, e3, e4.weak sub⟩
              subst q
              exact e (s.s.apart i j xs ys b hi hy h1 e1)
        · have nj : ∀ (j : Nat) (ys : List Mi.D), (δ.set i (Sl.d (.lst xs)))[j]? = some (Sl.lin ys) → δ[j]? = some (Sl.lin ys) := fun j ys hj => by
            by_cases e : i = j
            · subst e
              rw [List.getElem?_set_self hl] at hj
              cases hj
            · rw [List.getElem?_set_ne e] at hj
              exact hj
          exact s.s.apart j k ys zs b (nj j ys q1) (nj k zs q2) q3 q4
      | _ => exact hp.elim
/-! ### loops -/
theorem SX.fresh {K : PySem.W.Frag} {mg : Str → Option Value} {ι Zo Zf : List Addr} {H : Hp} {μ : List Mo} {δ : List Sl} {σ : L2.St} (s : SX K mg T ι Zo Zf H μ δ σ) {p : Addr} {o : HO} (hp : H p = none) : SX K mg T ι Zo Zf (upd H p o) μ δ σ :=
  ⟨s.g.fresh hp, s.s.ext s.g (ext_fresh hp), s.dj⟩
theorem s_for {tg iter : Expr} {body : List Stmt} {ct : Tg} {ci : It} {cb : Ss} (hp : PassesOwn (model X.prog X.w) X.A X.env X.xe) (hc : X.calm = true) (hi : PI X tg iter (tI X.K X.mg T W ci)) (hg : PG X tg (gT X.K X.mg T ct)) (hb : PSs X body (tSs X.K X.mg T W cb))
    (hs : ∀ x, foldedSetIterable iter X.env x = pure x) : PS X (.For tg iter body [] pos) (tS X.K X.mg T W (.for_ ct ci cb)) :=
  PS.imp (ps_for hp hc hi hg hb hs) fun D σ H h => by
    obtain ⟨ι, Zo, Zf, μ, δ, s, hp⟩ := h
    simp only [ex] at hp
    refine ⟨ι, Zo ++ Zf, Zf, μ, δ, s.g, s.s, hp.thenE s fun xs μ1 ι1 J H1 e1 wk s1 h1 => ?_⟩
    obtain ⟨G, Y, wlk, hG, hY⟩ := wk
    have sub : ∀ z ∈ Zf, z ∈ Zo ++ Zf := fun z q => List.mem_append_right _ q
    refine for_it wlk (fun i σ2 H2 => ∃ ι2 Zf2 μ2 δ2, Ext ι1 Zf H1 ι2 H2 ∧ (∀ z ∈ Zf2, z ∈ Zf ∨ H1 z = none) ∧ SX X.K X.mg T ι2 Zo Zf2 H2 μ2 δ2 σ2 ∧ pS X.K X.mg T W (forL ct (exs cb) (xs.drop i) δ2 μ2) ι2 Zo Zf2 H2 D)
      ⟨ι1, Zf, μ1, δ, Ext.refl, fun _ z => .inl z, s1, by simpa using h1⟩ (fun i σ2 H2 _ ⟨ι2, Zf2, μ2, δ2, e2, _⟩ => hG ι2 Zf H2 e2 sub) ?_ ?_
    · rintro i x σ2 H2 H3 hi ⟨ι2, Zf2, μ2, δ2, e2, z2, s2, hp2⟩ y
      obtain ⟨d, hd⟩ : ∃ d, xs[i]? = some d := ⟨xs[i], List.getElem?_eq_getElem hi⟩
      have hz : ∀ z ∈ Zo ++ Zf2, z ∈ Zo ++ Zf ∨ H1 z = none := fun z q => by
        rcases List.mem_append.mp q with q | q
        · exact .inl (List.mem_append_left _ q)
        · rcases z2 z q with q | q
          · exact .inl (List.mem_append_right _ q)
          · exact .inr q
      obtain ⟨hh, rd⟩ := hY i d ι2 Zf (Zo ++ Zf2) H2 H3 x hd e2 sub hz y
      have st3 : Ext ι2 [] H2 ι2 H3 ∧ SX X.K X.mg T ι2 Zo Zf2 H3 μ2 δ2 σ2 := by
        rcases hh with rfl | ⟨p, o, hpn, rfl⟩
        · exact ⟨Ext.refl, s2⟩
        · exact ⟨ext_fresh hpn, s2.fresh hpn⟩
      obtain ⟨e3, s3⟩ := st3
      have ed : xs.drop i = d :: xs.drop (i + 1) := by
        rw [List.drop_eq_getElem_cons hi]
        congr 1
        have := List.getElem?_eq_getElem hi
        rw [hd] at this; exact (Option.some.inj this).symm
      rw [ed] at hp2
      unfold forL at hp2
      have hp3 := pS.mono hp2 (e3.mono (by simp)) (fun _ z => .inl z)
      refine put_nx s3 rd hp3 fun δ3 σ3 s4 hp4 => ?_
      refine ⟨ι2, Zo, Zf2, μ2, δ3, s4, ?_⟩
      have e13 : Ext ι1 Zf H1 ι2 H3 := e2.trans0 e3
      have again : ∀ {δ4 : List Sl} {μ4 : List Mo} {ι4 : List Addr} {Zf4 : List Addr} {σ4 : L2.St} {H4 : Hp}, Ext ι2 Zf2 H3 ι4 H4 → (∀ z ∈ Zf4, z ∈ Zf2 ∨ H3 z = none) → SX X.K X.mg T ι4 Zo Zf4 H4 μ4 δ4 σ4 → pS X.K X.mg T W (forL ct (exs cb) (xs.drop (i + 1)) δ4 μ4) ι2 Zo Zf2 H3 D →
          ∃ ι2 Zf2 μ2 δ2, Ext ι1 Zf H1 ι2 H4 ∧ (∀ z ∈ Zf2, z ∈ Zf ∨ H1 z = none) ∧ SX X.K X.mg T ι2 Zo Zf2 H4 μ2 δ2 σ4 ∧ pS X.K X.mg T W (forL ct (exs cb) (xs.drop (i + 1)) δ2 μ2) ι2 Zo Zf2 H4 D := fun e4 z4 s4 h4 =>
        ⟨_, _, _, _, e13.trans e4 z2, fun z q => by
          rcases z4 z q with q | q
          · exact z2 z q
          · exact .inr (e13.free q), s4, pS.mono h4 e4 z4⟩
      match hq : exs cb δ3 μ2, hp4 with
      | some (.nx, δ4, μ4), hp4 => exact fun ι4 Zf4 σ4 H4 e4 z4 s4 => again e4 z4 s4 hp4
      | some (.ct, δ4, μ4), hp4 => exact fun ι4 Zf4 σ4 H4 e4 z4 s4 => again e4 z4 s4 hp4
      | some (.bk, δ4, μ4), hp4 => exact hp4
      | some (.rt d, δ4, μ4), hp4 => exact hp4
      | some (.ex e, δ4, μ4), hp4 => exact hp4
    · rintro σ2 H2 ⟨ι2, Zf2, μ2, δ2, e2, z2, s2, hp2⟩
      rw [List.drop_length] at hp2
      exact hp2.nx s2
theorem s_while {c : Expr} {body : List Stmt} {cc : E} {cb : Ss} {n : Nat} (hp : PassesOwn (model X.prog X.w) X.A X.env X.xe) (hc : PT X c (tT X.K X.mg T W cc)) (hb : PSs X body (tSs X.K X.mg T W cb)) : PS X (.While c body [] pos) (tS X.K X.mg T W (.while_ n cc cb)) :=
  PS.imp (ps_while hp hc hb) fun D σ H h => by
    obtain ⟨ι, Zo, Zf, μ, δ, s, hp⟩ := h
    simp only [ex] at hp
    refine ⟨fun m σ H => ∃ ι Zo Zf μ δ, SX X.K X.mg T ι Zo Zf H μ δ σ ∧ pS X.K X.mg T W (whileL (ev cc) (exs cb) m δ μ) ι Zo Zf H D, ⟨n, ι, Zo, Zf, μ, δ, s, hp⟩, ?_⟩
    rintro m σ H ⟨ι, Zo, Zf, μ, δ, s, hp⟩
    cases m with
    | zero => exact hp.elim
    | succ m =>
      have hp2 : pS X.K X.mg T W (thenE (evT cc δ μ) δ fun k μ => if k = true then (match exs cb δ μ with
        | some (.nx, δ, μ) => whileL (ev cc) (exs cb) m δ μ
        | some (.ct, δ, μ) => whileL (ev cc) (exs cb) m δ μ
        | some (.bk, δ, μ) => some (.nx, δ, μ)
        | r => r) else some (.nx, δ, μ)) ι Zo Zf H D := by
        unfold whileL at hp
        unfold evT
        cases h : ev cc δ μ with
        | none => rw [h] at hp; exact hp
        | some r =>
          obtain ⟨r, μ1⟩ := r
          cases r with
          | error e => rw [h] at hp; exact hp
          | ok d =>
            rw [h] at hp
            cases d with
            | bl k => cases k <;> exact hp
            | _ => exact hp
      refine ⟨ι, Zo ++ Zf, Zf, μ, δ, s.g, s.s, hp2.thenE s fun k μ1 ι1 k' H1 e1 r1 s1 h1 => ?_⟩
      subst r1
      cases k with
      | false => exact iteF (h1.nx s1)
      | true =>
        refine iteT ⟨fun σ' H' => ∃ ι Zo Zf μ δ, SX X.K X.mg T ι Zo Zf H' μ δ σ' ∧ pS X.K X.mg T W (whileL (ev cc) (exs cb) m δ μ) ι Zo Zf H' D, fun σ' H' q => ⟨m, Nat.lt_succ_self _, q⟩, ι1, Zo, Zf, μ1, δ, s1, ?_⟩
        match hq : exs cb δ μ1, h1 with
        | some (.nx, δ4, μ4), hp4 => exact fun ι4 Zf4 σ4 H4 e4 z4 s4 => ⟨ι4, Zo, Zf4, μ4, δ4, s4, pS.mono hp4 e4 z4⟩
        | some (.ct, δ4, μ4), hp4 => exact fun ι4 Zf4 σ4 H4 e4 z4 s4 => ⟨ι4, Zo, Zf4, μ4, δ4, s4, pS.mono hp4 e4 z4⟩
        | some (.bk, δ4, μ4), hp4 => exact hp4
        | some (.rt d, δ4, μ4), hp4 => exact hp4
        | some (.ex e, δ4, μ4), hp4 => exact hp4
/-! ### raise, stores -/
theorem s_raise {c : Str} {C : Addr} {e : Expr} (hc : X.calm = true) (tk : L2N.Takes X W) (hm : X.mg c = some (.ref C)) (he : L2N.PMk X e (fun _ H Q => Q (.ref C) none H)) : PS X (.Raise (some e) none pos) (tS X.K X.mg T W (.raise c)) :=
  PS.imp (L2N.ps_raise hc tk he) fun D σ H h => by
    obtain ⟨ι, Zo, Zf, μ, δ, s, hp⟩ := h
    simp only [ex] at hp
    exact hp ι Zf σ H Ext.refl (fun _ z => .inl z) s _ _ ⟨⟨C, hm, rfl⟩, rfl⟩
theorem nodup_at : ∀ {N : List Addr} {i j : Nat} {x : Addr}, N.Nodup → N[i]? = some x → N[j]? = some x → i = j
  | [], _, _, _, _, h, _ => by simp at h
  | n :: N, 0, 0, _, _, _, _ => rfl
  | n :: N, 0, j + 1, x, hN, h1, h2 => by
    simp at h1 h2
    subst h1
    exact absurd (List.mem_of_getElem? h2) (List.nodup_cons.mp hN).1
  | n :: N, i + 1, 0, x, hN, h1, h2 => by
    simp at h1 h2
    subst h2
    exact absurd (List.mem_of_getElem? h1) (List.nodup_cons.mp hN).1
  | n :: N, i + 1, j + 1, x, hN, h1, h2 => by
    simp at h1 h2
    rw [nodup_at (List.nodup_cons.mp hN).2 h1 h2]
theorem PSet.or {X : Cx} {t t' : TSet} (h : PSet X t) (h' : PSet X t') : PSet X (fun o i v H Q => t o i v H Q ∨ t' o i v H Q) := by
  intro pins s σ H o i v ov iv u Q I ro ri rv hh
  rcases hh with hh | hh
  · exact h pins s σ H o i v ov iv u Q I ro ri rv hh
  · exact h' pins s σ H o i v ov iv u Q I ro ri rv hh
/-- a changeable list has another item -/
theorem RG.setL {K : PySem.W.Frag} {mg : Str → Option Value} {ι Z : List Addr} {H : Hp} {μ : List Mo} (g : RG K mg T ι Z H μ) {n : Nat} {a : Addr} {xs ys : List Mi.D} {vs ws : List V} (hm : μ[n]? = some (.lst xs)) (ha : ι[n]? = some a) (h : H a = some (.lst vs)) (r : Rps K mg ι Z H ys ws) :
    RG K mg T ι Z (upd H a (.lst ws)) (μ.set n (.lst ys)) ∧ Ext ι [] H ι (upd H a (.lst ws)) := by
  have hin : a ∈ ι := List.mem_of_getElem? ha
  have e : Ext ι [] H ι (upd H a (.lst ws)) := by
    refine ⟨⟨[], by simp, by simp⟩, fun b o q n _ _ => ?_, fun b o q => ?_, fun b us q => ?_⟩
    · rw [upd_ne (fun z => by subst z; exact n hin)]; exact q
    · by_cases z : b = a
      · subst z; exact ⟨_, upd_same⟩
      · exact ⟨o, by rw [upd_ne z]; exact q⟩
    · have : b ≠ a := fun z => by subst z; rw [h] at q; cases q
      rw [upd_ne this]; exact q
  have hnl : n < μ.length := (List.getElem?_eq_some_iff.mp hm).1
  refine ⟨⟨g.nd, by rw [List.length_set]; exact g.len, fun k m hk => ?_, fun z hz => ⟨?_, (g.zl z hz).2⟩, ?_⟩, e⟩
  · by_cases q : n = k
    · subst q
      rw [List.getElem?_set_self hnl] at hk
      cases hk
      exact ⟨a, ha, ws, upd_same, r.ext0 e⟩
    · rw [List.getElem?_set_ne q] at hk
      obtain ⟨b, h1, h2⟩ := g.mem k m hk
      refine ⟨b, h1, h2.ext (Zf := []) e (by simp) (fun _ z => .inl z) (upd_ne fun z => q ?_)⟩
      subst z
      exact nodup_at g.nd ha h1
  · obtain ⟨us, hu⟩ := (g.zl z hz).1
    exact ⟨us, by rw [upd_ne (fun q => by subst q; exact (g.zl z hz).2 hin)]; exact hu⟩
  · intro p hp
    obtain ⟨ps, h1, h2, h3⟩ := g.tabs p hp
    refine ⟨ps, ?_, h2, fun pos cv hc => ?_⟩
    · rw [upd_ne (ne_of h1 h (by simp))]; exact h1
    · obtain ⟨c, e1, e2⟩ := h3 pos cv hc
      exact ⟨c, e1, by rw [upd_ne (ne_of e2 h (by unfold LamX.CodeO; simp))]; exact e2⟩
/-- a changeable dict has another value -/
theorem RG.setD {K : PySem.W.Frag} {mg : Str → Option Value} {ι Z : List Addr} {H : Hp} {μ : List Mo} (g : RG K mg T ι Z H μ) {n : Nat} {a : Addr} {ks : List (Str × Mi.D)} {m : List (Str × Mi.D)} {kv0 : List (Key × V)} {ws : List V} (hm : μ[n]? = some (.dct ks)) (ha : ι[n]? = some a) (h : H a = some (.dK kv0)) (r : Rps K mg ι Z H (m.map (·.2)) ws) :
    RG K mg T ι Z (upd H a (.dK ((m.map kS).zip ws))) (μ.set n (.dct m)) ∧ Ext ι [] H ι (upd H a (.dK ((m.map kS).zip ws))) := by
  have hin : a ∈ ι := List.mem_of_getElem? ha
  have e : Ext ι [] H ι (upd H a (.dK ((m.map kS).zip ws))) := by
    refine ⟨⟨[], by simp, by simp⟩, fun b o q n _ _ => ?_, fun b o q => ?_, fun b us q => ?_⟩
    · rw [upd_ne (fun z => by subst z; exact n hin)]; exact q
    · by_cases z : b = a
      · subst z; exact ⟨_, upd_same⟩
      · exact ⟨o, by rw [upd_ne z]; exact q⟩
    · have : b ≠ a := fun z => by subst z; rw [h] at q; cases q
      rw [upd_ne this]; exact q
  have hnl : n < μ.length := (List.getElem?_eq_some_iff.mp hm).1
  refine ⟨⟨g.nd, by rw [List.length_set]; exact g.len, fun k m hk => ?_, fun z hz => ⟨?_, (g.zl z hz).2⟩, ?_⟩, e⟩
  · by_cases q : n = k
    · subst q
      rw [List.getElem?_set_self hnl] at hk
      cases hk
      exact ⟨a, ha, ws, upd_same, r.ext0 e⟩
    · rw [List.getElem?_set_ne q] at hk
      obtain ⟨b, h1, h2⟩ := g.mem k m hk
      refine ⟨b, h1, h2.ext (Zf := []) e (by simp) (fun _ z => .inl z) (upd_ne fun z => q ?_)⟩
      subst z
      exact nodup_at g.nd ha h1
  · obtain ⟨us, hu⟩ := (g.zl z hz).1
    exact ⟨us, by rw [upd_ne (fun q => by subst q; exact (g.zl z hz).2 hin)]; exact hu⟩
  · intro p hp
    obtain ⟨ps, h1, h2, h3⟩ := g.tabs p hp
    refine ⟨ps, ?_, h2, fun pos cv hc => ?_⟩
    · rw [upd_ne (ne_of h1 h (by simp))]; exact h1
    · obtain ⟨c, e1, e2⟩ := h3 pos cv hc
      exact ⟨c, e1, by rw [upd_ne (ne_of e2 h (by unfold LamX.CodeO; simp))]; exact e2⟩
theorem put_rel {K : PySem.W.Frag} {mg : Str → Option Value} {ι Z : List Addr} {H : Hp} {z : Str} {d : Mi.D} {v : V} (hd : Rp K mg ι Z H d v) : ∀ {kvs : List (Str × Mi.D)} {vs : List V}, Rps K mg ι Z H (kvs.map (·.2)) vs →
    ∃ ws, ((kvs.map kS).zip vs).map (fun kv => if kv.1 = (Sum.inr z : Key) then (kv.1, v) else kv) = ((putS kvs z d).map kS).zip ws ∧ Rps K mg ι Z H ((putS kvs z d).map (·.2)) ws
  | [], vs, h => ⟨[], rfl, rfl⟩
  | (k, x) :: kvs, vs, h => by
    obtain ⟨u, vs', rfl, h1, h2⟩ := h
    obtain ⟨ws, e1, e2⟩ := put_rel (z := z) hd h2
    by_cases hk : k = z
    · subst hk
      refine ⟨v :: ws, ?_, ?_⟩
      · simp only [List.map_cons, List.zip_cons_cons, putS, if_true]
        rw [e1]; rfl
      · simp only [putS, List.map_cons, if_true]
        exact ⟨v, ws, rfl, hd, e2⟩
    · have hk2 : ¬ ((Sum.inr k : Key) = Sum.inr z) := fun q => by cases q; exact hk rfl
      refine ⟨u :: ws, ?_, ?_⟩
      · simp only [List.map_cons, List.zip_cons_cons, putS, if_neg hk, if_neg hk2]
        rw [e1]; rfl
      · simp only [putS, List.map_cons, if_neg hk]
        exact ⟨u, ws, rfl, h1, e2⟩
theorem any_key {z : Str} : ∀ {kvs : List (Str × Mi.D)} {vs : List V}, kvs.length = vs.length → (kvs.lookup z).isSome = true → (((kvs.map kS).zip vs).any fun kv => decide (kv.1 = (Sum.inr z : Key))) = true
  | [], _, _, h => by cases h
  | (k, x) :: kvs, [], hl, _ => by simp at hl
  | (k, x) :: kvs, v :: vs, hl, h => by
    rw [List.map_cons, List.zip_cons_cons, List.any_cons]
    have h : (match z == k with | true => some x | false => kvs.lookup z).isSome = true := h
    cases q : (z == k) with
    | true =>
      have := beq_iff_eq.mp q
      subst this
      simp
    | false =>
      rw [q] at h
      rw [any_key (by simpa using hl) h, Bool.or_true]
theorem s_put {o i : Expr} {co ci : E} {p : Pos} (he : PE X e (tE X.K X.mg T W ce)) (ho : PE X o (tE X.K X.mg T W co)) (hi : PE X i (tE X.K X.mg T W ci)) (hs : swapsWithSole [.Subscript o i p] e pos.line X.env = pure false) (hw : swappedStores [.Subscript o i p] e X.env = pure none)
    (h1 : (assignEach [.Subscript o i p] X.env).map (·.2) = [assign (.Subscript o i p) X.env]) (ha : ∀ v, assign (.Subscript o i p) X.env v = (do
      let ov ← holding [v] (eval o X.env)
      let iv ← holding [v, ov] (eval i X.env)
      standAt p
      holding [v, ov, iv] (setItem ov iv v)
      release [v, ov, iv] [])) (hu : X.A.units + 1 < cLine) : PS X (.Assign [.Subscript o i p] e pos) (tS X.K X.mg T W (.put co ci ce)) :=
  PS.imp (ps_asg he (pg_sub ho hi (PSet.or set_list (set_dict hu)) ha) hs hw h1) fun D σ H h => by
    obtain ⟨ι, Zo, Zf, μ, δ, s, hp⟩ := h
    simp only [ex] at hp
    refine ⟨ι, Zo ++ Zf, Zf, μ, δ, s.g, s.s, hp.thenE s fun v μ1 ι1 v' H1 e1 r1 s1 h1 => ?_⟩
    refine ⟨ι1, Zo ++ Zf, Zf, μ1, δ, s1.g, s1.s, h1.thenE s1 fun x μ2 ι2 x' H2 e2 r2 s2 h2 => ?_⟩
    refine ⟨ι2, Zo ++ Zf, Zf, μ2, δ, s2.g, s2.s, h2.thenE s2 fun k μ3 ι3 k' H3 e3 r3 s3 h3 => ?_⟩
    unfold putD at h3
    split at h3
    · rename_i n
      split at h3
      · rename_i xs k hm
        cases hx : L2.ixN xs.length k with
        | none => rw [hx] at h3; exact h3.elim
        | some j =>
          rw [hx] at h3
          simp only [Option.map_some, Option.bind_some] at h3
          obtain ⟨a, rfl, ha⟩ := r2.ext0 e3
          obtain ⟨b, hb, vs, hv, rv⟩ := s3.g.mem n _ hm
          rw [ha] at hb; cases hb
          obtain ⟨g4, e4⟩ := s3.g.setL (ys := xs.set j v) (ws := vs.set j v') hm ha hv (rv.set j ((r1.ext0 e2).ext0 e3))
          refine .inl ⟨a, vs, k, j, rfl, r3, hv, by rw [← rv.length]; exact hx, ?_⟩
          exact (h3.mono (e4.mono (by simp)) fun _ z => .inl z).nx ⟨g4, s3.s.ext s3.g e4, s3.dj⟩
      · rename_i kvs z hm
        split at h3
        · rename_i hc
          simp only [Bool.and_eq_true, decide_eq_true_eq] at hc
          simp only [Option.bind_some] at h3
          obtain ⟨a, rfl, ha⟩ := r2.ext0 e3
          obtain ⟨b, hb, vs, hv, rv⟩ := s3.g.mem n _ hm
          rw [ha] at hb; cases hb
          obtain ⟨ws, w1, w2⟩ := put_rel (z := z) ((r1.ext0 e2).ext0 e3) rv
          obtain ⟨g4, e4⟩ := s3.g.setD (m := putS kvs z v) (ws := ws) hm ha hv w2
          have hk' : k' = V.str z := r3
          subst hk'
          refine .inr ⟨a, upd H3 a (.dK (((putS kvs z v).map kS).zip ws)), rfl, ?_, ?_⟩
          · have hl : kvs.length = vs.length := by have := rv.length; simpa using this
            have hput : L2.putK ((kvs.map kS).zip vs) (Sum.inr z : Key) v' = ((putS kvs z v).map kS).zip ws := by
              unfold L2.putK
              rw [any_key hl hc.2, if_pos rfl]
              exact w1
            have := L2.DPut.k (k := (Sum.inr z : Key)) (v := v') hv (by rw [List.length_zip, List.length_map, ← hl, Nat.min_self, sizeLine_eq]; omega)
            rw [hput] at this
            exact this
          · exact (h3.mono (e4.mono (by simp)) fun _ z => .inl z).nx ⟨g4, s3.s.ext s3.g e4, s3.dj⟩
        · exact h3.elim
      · exact h3.elim
    · exact h3.elim
/-- name = [..], a list that this name alone holds -/
theorem SX.newLin {K : PySem.W.Frag} {mg : Str → Option Value} {ι Zo Zf : List Addr} {H : Hp} {μ : List Mo} {δ : List Sl} {σ : L2.St} (s : SX K mg T ι Zo Zf H μ δ σ) {p : Addr} {i : Nat} {xs : List Mi.D} {vs : List V} (hp : H p = none) (r : Rps K mg ι (Zo ++ Zf) H xs vs) :
    SX K mg T ι Zo (p :: Zf) (upd H p (.lst vs)) μ (δ.set i (.lin xs)) (σ.set i (some (.ref p))) := by
  have e : Ext ι [] H ι (upd H p (.lst vs)) := ext_fresh hp
  have hz : ∀ z ∈ Zo ++ p :: Zf, z ∈ Zo ++ Zf ∨ H z = none := fun z q => by
    rcases List.mem_append.mp q with q | q
    · exact .inl (List.mem_append_left _ q)
    · rcases List.mem_cons.mp q with q | q
      · rw [q]; exact .inr hp
      · exact .inl (List.mem_append_right _ q)
  have nz := (s.g.notin hp)
  refine ⟨?_, ?_, fun z q => ?_⟩
  · have g1 := s.g.consZ (vs := vs) hp
    exact g1.weakZ fun z q => by
      rcases List.mem_append.mp q with q | q
      · exact List.mem_cons_of_mem _ (List.mem_append_left _ q)
      · rcases List.mem_cons.mp q with q | q
        · rw [q]; exact List.mem_cons_self ..
        · exact List.mem_cons_of_mem _ (List.mem_append_right _ q)
  · have olds : ∀ (j : Nat) (y : Sl), δ[j]? = some y → SlOk K mg ι (Zo ++ p :: Zf) (p :: Zf) (upd H p (.lst vs)) y σ[j]? := fun j y hy => by
      have h := s.s.ok j y hy
      cases y with
      | un => trivial
      | d x => obtain ⟨v, h1, h2⟩ := h; exact ⟨v, h1, Rp.ext e (by simp) hz x v h2⟩
      | lin ys =>
        obtain ⟨a, ws, h1, h2, h3, h4⟩ := h
        exact ⟨a, ws, h1, List.mem_cons_of_mem _ h2, by rw [upd_ne (ne_of_none h3 hp)]; exact h3, Rps.ext e (by simp) hz _ _ h4⟩
    refine ⟨by simp [s.s.len], fun j y hy => ?_, fun j k ys zs a h1 h2 h3 h4 => ?_, fun z q => List.mem_append_right _ q⟩
    · by_cases q : i = j
      · subst q
        have hl : i < δ.length := by
          have := (List.getElem?_eq_some_iff.mp hy).1
          simpa using this
        rw [List.getElem?_set_self hl] at hy
        cases hy
        exact ⟨p, vs, by rw [List.getElem?_set_self (by rw [← s.s.len]; exact hl)], List.mem_cons_self .., upd_same, Rps.ext e (by simp) hz _ _ r⟩
      · rw [List.getElem?_set_ne q] at hy ⊢
        exact olds j y hy
    · have notp : ∀ (j : Nat) (ys : List Mi.D), j ≠ i → (δ.set i (Sl.lin xs))[j]? = some (Sl.lin ys) → (σ.set i (some (V.ref p)))[j]? ≠ some (some (V.ref p)) := fun j ys hj hy q => by
        rw [List.getElem?_set_ne (Ne.symm hj)] at hy q
        obtain ⟨a, ws, e1, e2, e3, _⟩ := s.s.ok j _ hy
        rw [q] at e1; cases e1
        rw [hp] at e3; cases e3
      by_cases q1 : j = i
      · by_cases q2 : k = i
        · rw [q1, q2]
        · subst q1
          have hl : j < σ.length := by
            have := (List.getElem?_eq_some_iff.mp h3).1
            simpa using this
          rw [List.getElem?_set_self hl] at h3
          cases h3
          exact absurd h4 (notp k zs q2 h2)
      · by_cases q2 : k = i
        · subst q2
          have hl : k < σ.length := by
            have := (List.getElem?_eq_some_iff.mp h4).1
            simpa using this
          rw [List.getElem?_set_self hl] at h4
          cases h4
          exact absurd h3 (notp j ys q1 h1)
        · rw [List.getElem?_set_ne (Ne.symm q1)] at h1 h3
          rw [List.getElem?_set_ne (Ne.symm q2)] at h2 h4
          exact s.s.apart j k ys zs a h1 h2 h3 h4
  · rcases List.mem_cons.mp q with q | q
    · rw [q]; exact fun z => nz.2 (List.mem_append_left _ z)
    · exact s.dj z q
theorem s_lin {i : Nat} {x : Str} {es : List Expr} {ces : Es} {p p2 : Pos} (hN : X.N.Nodup) (hi : X.N[i]? = some x) (hx : Loc X.env.scope x) (hf : X.fn x = true ∨ X.env.scope.names.lookup x = some .local) (ha : PA X es (tEs X.K X.mg T W ces)) :
    PS X (.Assign [.Name x p] (.List es p2) pos) (tS X.K X.mg T W (.lin i ces)) :=
  PS.imp (ps_set hN hi hx (pe_lst ha) rfl hf) fun D σ H h => by
    obtain ⟨ι, Zo, Zf, μ, δ, s, hp⟩ := h
    simp only [ex] at hp
    refine ⟨ι, Zo ++ Zf, Zf, μ, δ, s.g, s.s, hp.thenE s fun xs μ1 ι1 vs H1 e1 r1 s1 h1 => ?_⟩
    split at h1
    · rename_i hz
      refine ⟨by rw [← r1.length]; exact hz, fun q hq => ?_⟩
      refine (h1.mono (ι1 := ι1) (Zf1 := q :: Zf) (ext_fresh (o := .lst vs) hq) fun z hz => ?_).nx (s1.newLin hq r1)
      rcases List.mem_cons.mp hz with e | e
      · rw [e]; exact .inr hq
      · exact .inl e
    · exact h1.elim
/-- name.append(e), of such a list -/
theorem s_app {i : Nat} {x : Str} {p p2 p3 : Pos} (hN : X.N[i]? = some x) (hv : Vis X.env.scope x) (hd : (x == ("__debug__" : Str)) = false) (hcd : (x == ("__classdict__" : Str)) = false) (he : PE X e (tE X.K X.mg T W ce)) (hst : starEach [e] X.env = (false, eval e X.env) :: starEach [] X.env)
    (hline : (p2.endLine == p3.line) = true) : PS X (.Expr (.Call (.Attribute (.Name x p) "append" p2) [e] [] p3) pos) (tS X.K X.mg T W (.app i ce)) :=
  PS.imp (ps_expr (pe_bm PySem.F.plainAttrs_list PySem.F.slot_list_append PySem.F.type_list_append mt_append (pe_var hN hv hd hcd) (pa_cons he pa_nil hst) rfl (by rw [hst]; rfl) hline hst rfl) rfl) fun D σ H h => by
    obtain ⟨ι, Zo, Zf, μ, δ, s, hp⟩ := h
    simp only [ex] at hp
    cases hi : δ[i]? with
    | none => rw [hi] at hp; exact hp.elim
    | some y =>
      rw [hi] at hp
      cases y with
      | lin xs =>
        obtain ⟨a, vs, h1, h2, h3, h4⟩ := s.s.ok i _ hi
        refine ⟨.ref a, h1, .inl ⟨rfl, _, SqL.of h3⟩, ι, Zo ++ Zf, Zf, μ, δ, s.g, s.s, hp.thenE s fun x μ1 ι1 v H1 e1 r1 s1 h5 => ?_⟩
        have ha : a ∈ Zo ++ Zf := List.mem_append_right _ h2
        have h6 : H1 a = some (.lst vs) := e1.keep a _ h3 (s.g.zl a ha).2 (by simp) (fun _ z => by cases z)
        split at h5
        · rename_i hz
          have eU := ext_updZ (ι := ι1) (ws := vs ++ [v]) h6
          have sub : ∀ z ∈ [a], z ∈ Zo ++ Zf := fun z q => by rw [List.mem_singleton.mp q]; exact ha
          refine ⟨a, vs, v, rfl, rfl, h6, by rw [← h4.length]; exact hz, ?_⟩
          refine (h5.mono (ι1 := ι1) (Zf1 := Zf) (eU.mono fun z q => by rw [List.mem_singleton.mp q]; exact h2) fun _ z => .inl z).nx ⟨s1.g.updZ ha h6, ?_, s1.dj⟩
          have hl : i < δ.length := (List.getElem?_eq_some_iff.mp hi).1
          refine ⟨by rw [List.length_set]; exact s1.s.len, fun j y hy => ?_, fun j k ys zs b q1 q2 q3 q4 => ?_, s1.s.sub⟩
          · by_cases q : i = j
            · subst q
              rw [List.getElem?_set_self hl] at hy
              cases hy
              exact ⟨a, vs ++ [v], h1, h2, upd_same, Rps.append (Rps.ext eU sub (fun _ z => .inl z) _ _ (h4.ext0 e1)) ⟨v, [], rfl, Rp.ext eU sub (fun _ z => .inl z) _ _ r1, rfl⟩⟩
            · rw [List.getElem?_set_ne q] at hy
              have hj := s1.s.ok j y hy
              cases y with
              | un => trivial
              | d x => obtain ⟨w, e2, e3⟩ := hj; exact ⟨w, e2, Rp.ext eU sub (fun _ z => .inl z) _ _ e3⟩
              | lin ys =>
                obtain ⟨b, ws, e2, e3, e4, e5⟩ := hj
                have hne : b ≠ a := fun z => by
                  subst z
                  exact q (s1.s.apart i j xs ys b hi hy h1 e2)
                exact ⟨b, ws, e2, e3, by rw [upd_ne hne]; exact e4, Rps.ext eU sub (fun _ z => .inl z) _ _ e5⟩
          · have nj : ∀ (j : Nat) (ys : List Mi.D), (δ.set i (Sl.lin (xs ++ [x])))[j]? = some (Sl.lin ys) → ∃ ys, δ[j]? = some (Sl.lin ys) := fun j ys hj => by
              by_cases q : i = j
              · subst q; exact ⟨xs, hi⟩
              · rw [List.getElem?_set_ne q] at hj
                exact ⟨ys, hj⟩
            obtain ⟨ys', q1⟩ := nj j ys q1
            obtain ⟨zs', q2⟩ := nj k zs q2
            exact s1.s.apart j k ys' zs' b q1 q2 q3 q4
        · exact h5.elim
      | _ => exact hp.elim
/-! ### a def -/
theorem ok_run {P : Program} {w : World} {K : PySem.W.Frag} {mg : Str → Option Value} {base : Heap} {x qual : Str} {params : Arguments} {body : List Stmt} {scope : Scope} {f : Addr} {fd : FuncData} {N ps : List Str} {k : Nat} {cb : Ss} {F : Sem}
    (FD : FunD K x qual params body scope [] [] f fd) (S : FnScope N ps scope) (hF : F = run ps.length N.length cb)
    (hb : ∀ (X : Cx) (W : WX), X.prog = P → X.w = w → X.K = K → X.mg = mg → X.base = base → X.N = N → X.env.scope = scope → X.calm = true → Room k X.A → L2N.Takes X W → PassesOwn (model X.prog X.w) X.A X.env X.xe → (∀ y, X.fn y = true) → X.env.code = fd.code → X.env.qual = qual ++ ".<locals>." → PSs X body (tSs K mg T W cb)) :
    FnOk P w K mg base (L2N.CX P w) (k + 1) f fd ps (spF K mg T ps.length F) := by
  subst hF
  obtain ⟨oc, od, dV, kV, doc, pm, an, cdv, ct, osl, rfl, lk, hcd, _, _⟩ := FD.ex
  refine fn_of lk hcd S (fun vs H Q E h => h.1) fun A outer s H vs Q E hr h => ?_
  obtain ⟨hl, ι, Z, μ, ds, g, r, hp⟩ := h
  refine ⟨tSs K mg T (fun cls d _ H => E cls d H) cb, hb _ _ rfl rfl rfl rfl rfl rfl rfl rfl hr (L2N.takes_of rfl rfl rfl rfl) (L2.passes_of rfl) (fun _ => rfl) rfl rfl, ?_⟩
  refine ⟨ι, Z, [], μ, ds.map .d ++ List.replicate (N.length - ps.length) .un, ⟨by simpa using g, ?_, by simp⟩, ?_⟩
  · have hlen : ds.length = vs.length := r.length
    have slots : ∀ (i : Nat) (y : Sl), (ds.map Sl.d ++ List.replicate (N.length - ps.length) Sl.un)[i]? = some y → y = .un ∨ ∃ d v, y = .d d ∧ (L2.start N vs)[i]? = some (some v) ∧ Rp K mg ι (Z ++ []) H d v := fun i y hy => by
      by_cases hi : i < ds.length
      · rw [List.getElem?_append_left (by simpa using hi), List.getElem?_map] at hy
        cases hd : ds[i]? with
        | none => rw [hd] at hy; cases hy
        | some d =>
          rw [hd] at hy
          cases hy
          obtain ⟨v, h1, h2⟩ := r.get hd
          refine .inr ⟨d, v, rfl, ?_, by simpa using h2⟩
          unfold L2.start
          rw [List.getElem?_append_left (by rw [List.length_map, ← hlen]; exact hi), List.getElem?_map, h1]
          rfl
      · rw [List.getElem?_append_right (by simpa using hi)] at hy
        rw [List.getElem?_replicate] at hy
        split at hy <;> cases hy
        exact .inl rfl
    refine ⟨?_, fun i y hy => ?_, fun i j xs ys a h1 => ?_, by simp⟩
    · unfold L2.start
      simp [hlen, hl]
    · rcases slots i y hy with rfl | ⟨d, v, rfl, h1, h2⟩
      · trivial
      · exact ⟨v, h1, h2⟩
    · rcases slots i _ h1 with e | ⟨_, _, e, _⟩ <;> cases e
  · unfold run at hp
    rw [if_pos (by rw [r.length]; exact hl)] at hp
    match hq : exs cb (ds.map Sl.d ++ List.replicate (N.length - ps.length) Sl.un) μ, hp with
    | some (.nx, δ1, μ1), hp =>
      intro ι1 Zf1 σ1 H1 e1 z1 s1
      refine hp ι1 _ H1 (e1.mono (by simp)) (s1.g.weakZ fun z q => List.mem_append_left _ q) rfl
    | some (.rt d, δ1, μ1), hp =>
      intro ι1 Zf1 σ1 H1 e1 z1 s1 v r1
      exact hp ι1 _ H1 (e1.mono (by simp)) (s1.g.weakZ fun z q => List.mem_append_left _ q) (r1.weak fun z q => List.mem_append_left _ q)
    | some (.ex e, δ1, μ1), hp =>
      intro ι1 Zf1 σ1 H1 e1 z1 s1 cv dx xr
      exact hp ι1 H1 cv dx (e1.mono (by simp)) (s1.g.weakZ fun z q => List.mem_append_left _ q) xr
end
end Mi
set_option Elab.async false
set_option linter.all false
set_option maxRecDepth 100000
set_option maxHeartbeats 4000000
/-! Mk0: names as a def's scope has them. -/
namespace Mi
open PySem PySem.Spec PyProof.Rows L2 RZ
def visB (sc : Scope) (x : Str) : Bool := match sc.names.lookup x with
  | some .local => true
  | some .cell => true
  | some .free => true
  | _ => false
def locB (sc : Scope) (x : Str) : Bool := match sc.names.lookup x with
  | some .local => true
  | some .cell => true
  | _ => false
def glB (sc : Scope) (x : Str) : Bool := (match sc.names.lookup x with
  | some .globalImplicit => true
  | _ => false) && !(x == ("__debug__" : Str)) && !(decide (x = "__name__"))
/-- the names that may be stored to -/
def LocOk (X : Cx) (sw : Scope) : Prop := ∀ y, locB sw y = true → L2.Loc X.env.scope y ∧ (X.fn y = true ∨ X.env.scope.names.lookup y = some .local)
theorem vis_of {sc : Scope} {x : Str} (h : visB sc x = true) : Vis sc x := by
  unfold visB at h
  unfold Vis
  split at h
  · exact .inl ‹_›
  · exact .inr (.inl ‹_›)
  · exact .inr (.inr ‹_›)
  · cases h
theorem loc_of {sc : Scope} {x : Str} (h : locB sc x = true) : L2.Loc sc x := by
  unfold locB at h
  unfold L2.Loc
  split at h
  · exact .inl ‹_›
  · exact .inr ‹_›
  · cases h
theorem locOk_blk {X : Cx} {scope : Scope} {s : Shared} {H : Hp} {cl : List (Str × Addr)} {a : Addr} {fp : List Addr} : LocOk (X.blk s H scope (compEnvC scope cl a X.env) fp) scope := fun y h => by
  have keep : ∀ k, k ≠ NameKind.free → scope.names.lookup y = some k → (relS scope X.env.scope).names.lookup y = some k := fun k hk e => lookup_relS_keep hk e
  rcases loc_of h with e | e
  · have e2 := keep _ (by decide) e
    exact ⟨.inl e2, .inr e2⟩
  · exact ⟨.inr (keep _ (by decide) e), .inl (by show (scope.names.lookup y == some .cell) = true; rw [e]; rfl)⟩
theorem gl_of {sc : Scope} {x : Str} (h : glB sc x = true) : sc.names.lookup x = some .globalImplicit ∧ (x == ("__debug__" : Str)) = false ∧ x ≠ "__name__" := by
  unfold glB at h
  simp only [Bool.and_eq_true, Bool.not_eq_true', decide_eq_false_iff_not] at h
  obtain ⟨⟨h1, h2⟩, h3⟩ := h
  split at h1
  · exact ⟨‹_›, h2, h3⟩
  · cases h1
end Mi
set_option Elab.async false
set_option linter.all false
set_option maxRecDepth 100000
set_option maxHeartbeats 4000000
/-! Nb: the ends of iterators while an exception is handled. -/
namespace Mh
open PySem PySem.Spec PyProof.Rows HotX
section
variable {prog : Program} {w : World} {A : Around} {E : Value → Shared → Prop} {s : Shared} {x1 : Addr}
theorem hot_ext {h h' : Heap} (c : HotAt A x1 h) (k : ∀ o, h.get? x1 = some o → h'.get? x1 = some o) : HotAt A x1 h' := by
  obtain ⟨a, o, vs, b, d⟩ := c
  exact ⟨a, o, vs, k _ b, d⟩
theorem hot_in {h : Heap} (c : HotAt A x1 h) : HotAt A.in1 x1 h := c
/-- raise StopIteration, of a built-in's own -/
theorem stop_hot {α : Type} {Q : α → Shared → Prop} (c : HotAt A x1 s.heap)
    (hE : ∀ h' e, (∀ b o, s.heap.get? b = some o → h'.get? b = some o) → (∃ o, h'.get? e = some o ∧ o.cls = .type "StopIteration") → E (.ref e) { s with heap := h' }) :
    wpAny (model prog w) A (newExc (.type "StopIteration") []) (fun e s' => wpAny (model prog w) A (raiseNew e : Sem α) Q E s') E s := by
  obtain ⟨hh, o1, vs1, g1, d1, c1⟩ := c
  simp only [newExc, newTuple]
  refine wpAny_bind (wpAny_newObj_type (wpAny_bind (m := firstArgMember _ _) (wpAny_of_eq (a := Value.none) (by first | rfl | (simp only [firstArgMember]; rfl)) (wpAny_newObj_type ?_ (by size_fits)))) (by size_fits))
  refine raiseNew_hot (x1 := x1) ⟨hh, o1, vs1, Heap.get?_push_of_some _ (Heap.get?_push_of_some _ g1), d1, c1⟩ (Nat.ne_of_lt (Heap.lt_size (Heap.get?_push_of_some _ g1))) (Heap.get?_push_size _ rfl) rfl (by first | (simp; done) | (simp; omega) | (simp only [Array.size_append]; simp; omega)) ?_
  refine hE _ _ (fun b o e => ?_) ⟨_, Heap.get?_update_self _ (Heap.get?_push_size _ rfl) rfl, rfl⟩
  rw [Heap.get?_update_other _ _ (Nat.ne_of_gt (Heap.lt_size (Heap.get?_push_of_some _ e)))]
  exact Heap.get?_push_of_some _ (Heap.get?_push_of_some _ e)
theorem ne_iter {h : Heap} {it l : Addr} {i : Nat} (c : HotAt A x1 h) (hit : h.IsListIter it l i) : x1 ≠ it := by
  rintro rfl
  obtain ⟨_, o, vs, e, d, q⟩ := c
  obtain ⟨o', e', _, d'⟩ := hit
  rw [e] at e'
  cases e'
  rw [d] at d'
  cases d'
  simp at q
theorem nextOf_list_end_hot {it l : Addr} {i : Nat} {items} {Q : Value → Shared → Prop} (c : HotAt A x1 s.heap) (hit : s.heap.IsListIter it l i) (hl : s.heap.IsList l items) (hx : items[i]? = none)
    (hE : ∀ h' e, Heap.ExtBut it s.heap h' → (∃ o, h'.get? e = some o ∧ o.cls = .type "StopIteration") → E (.ref e) { s with heap := h' }) : wpAny (model prog w) A (Builtin.SmallTypes.nextOf (.ref it)) Q E s := by
  have ne := ne_iter c hit
  obtain ⟨o, ho, hc, hd⟩ := id hit
  obtain ⟨ol, hol, _, nl, hdl⟩ := hl
  unfold Builtin.SmallTypes.nextOf
  refine wpAny_bind (wpAny_callSpecial?_slot (name := Str.ofString "__next__") hit.typeIs slot_listiter_next (wpAny_call_entry slot_listiter_next hit.typeIs entry_listiter_next ?_ (args_listiter_next _)))
  show wpAny _ _ (field (.ref it) 0 >>= _) _ _ s
  refine wpAny_bind (wpAny_field ho hd (x := .ref l) rfl ?_)
  show wpAny _ _ (if (Value.ref l == Value.none) = true then _ else _) _ _ s
  rw [if_neg (show ¬ ((Value.ref l == Value.none) = true) from Bool.false_ne_true)]
  refine wpAny_bind (wpAny_field ho hd (x := .int i 0) rfl (wpAny_bind (wpAny_seqItems hol hdl ?_)))
  simp only [Int.toNat_natCast, hx]
  refine wpAny_bind (wpAny_rule (wpAny_bind (wpAny_setField ho hd (by simp) ?_)))
  refine wpAny_bind (stop_hot (x1 := x1) (hot_ext (hot_in c) fun b e => ?_) fun h' e k he => hE h' e (fun b o' nb q => k b o' ?_) he)
  · rw [Heap.get?_update_other _ _ ne.symm]; exact e
  · exact (Heap.SameBut.update ..).extBut b o' nb q
theorem ne_zip {h : Heap} {z TI TO : Addr} {f0 : Value} (c : HotAt A x1 h) (hz : IsZip h z TI TO f0) : x1 ≠ z := by
  rintro rfl
  obtain ⟨_, o, vs, e, d, q⟩ := c
  rw [show h.get? x1 = _ from hz] at e
  cases e
  cases d
  simp at q
/-- zip's end, both lists -/
theorem zip_end_hot {z TI TO i1 i2 l1 l2 : Addr} {k1 : Nat} {xs : Array Value} {a b : Value} {Q : Fin → Shared → Prop} (c : HotAt A x1 s.heap) (D : ZipApart z TI TO i1 i2 l1 l2) (hz : IsZip s.heap z TI TO .none) (hTI : IsPair s.heap TI (.ref i1) (.ref i2)) (hTO : IsPair s.heap TO a b)
    (h1 : s.heap.IsListIter i1 l1 k1) (hl1 : s.heap.IsList l1 xs) (hend : xs[k1]? = none)
    (hE : ∀ h' e, (∀ c o, c ≠ z → c ≠ TO → c ≠ i1 → c ≠ i2 → s.heap.get? c = some o → h'.get? c = some o) → (∃ o, h'.get? e = some o ∧ o.cls = .type "StopIteration") → E (.ref e) { s with heap := h' }) :
    wpAny (model prog w) A (Builtin.«zip.__next__» ⟨[.ref z], []⟩) Q E s := by
  have nz := ne_zip c hz
  show wpAny _ _ (field (.ref z) 2 >>= _) _ _ _
  refine wpAny_bind (wpAny_field hz rfl (x := .bool false) rfl (wpAny_bind (wpAny_field hz rfl (x := .ref TI) rfl (wpAny_bind (wpAny_seqItems hTI rfl ?_)))))
  show wpAny _ _ (Builtin.SmallTypes.ownedTupleIsFree (.ref z) >>= _) _ _ _
  refine wpAny_bind ?_
  unfold Builtin.SmallTypes.ownedTupleIsFree
  refine wpAny_bind (wpAny_field hz rfl (x := .none) rfl (wpAny_pure ?_))
  simp only [if_true]
  refine wpAny_bind (wpAny_rule (wpAny_bind (wpAny_field hz rfl (x := .ref TO) rfl (wpAny_bind (wpAny_setField_rec hz (by simp) fun h₁ hz₁ hs₁ => ?_)))))
  replace hz₁ : IsZip h₁ z TI TO .ellipsis := hz₁
  refine wpAny_bind ?_
  simp only [List.zipIdx_cons, List.zipIdx_nil, List.forIn_cons, List.forIn_nil]
  refine wpAny_bind (wpAny_bind (wpAny_onRaise ?_))
  show wpAny _ _ (Builtin.SmallTypes.nextOf (.ref i1) >>= _) _ _ _
  refine wpAny_bind (nextOf_list_end_hot (x1 := x1) (hot_ext c fun o q => hs₁.extBut _ _ nz q) (h1.extBut hs₁.extBut D.i1z) (hl1.extBut hs₁.extBut D.l1z) hend fun h₂ e hs₂ he => ?_)
  obtain ⟨oe, hoe, hce⟩ := he
  have hz₂ : IsZip h₂ z TI TO .ellipsis := hs₂ _ _ D.i1z.symm hz₁
  have hez : e ≠ z := fun x => by subst x; rw [hz₂] at hoe; cases hoe; simp at hce
  exact wpAny_setField_rec hz₂ (by simp) fun h₃ _ hs₃ => hE h₃ e (fun c o c1 _ c3 _ x => hs₃.extBut _ _ c1 (hs₂ _ _ c3 (hs₁.extBut _ _ c1 x))) ⟨oe, hs₃.extBut _ _ hez hoe, hce⟩
theorem next_zip_end_hot {z TI TO i1 i2 l1 l2 : Addr} {k1 : Nat} {xs : Array Value} {a b : Value} {Q : Option Value → Shared → Prop} (c : HotAt A x1 s.heap) (D : ZipApart z TI TO i1 i2 l1 l2) (hz : IsZip s.heap z TI TO .none) (hTI : IsPair s.heap TI (.ref i1) (.ref i2)) (hTO : IsPair s.heap TO a b)
    (h1 : s.heap.IsListIter i1 l1 k1) (hl1 : s.heap.IsList l1 xs) (hend : xs[k1]? = none)
    (hQ : ∀ h', (∀ c o, c ≠ z → c ≠ TO → c ≠ i1 → c ≠ i2 → s.heap.get? c = some o → h'.get? c = some o) → Q none { s with heap := h' }) : wpAny (model prog w) A (pyNext (.ref z)) Q E s := by
  have hT : s.TypeIs (.ref z) "zip" := ⟨_, hz, rfl⟩
  unfold pyNext
  refine wpAny_bind (wpAny_attempt (wpAny_callSpecial?_slot (name := Str.ofString "__next__") hT F.slot_zip_next (wpAny_call_entry F.slot_zip_next hT F.entry_zip_next (zip_end_hot (x1 := x1) (hot_in c) D hz hTI hTO h1 hl1 hend fun h' e hk he => ?_) (F.args_zip_next_1 _))))
  obtain ⟨o, ho, hc⟩ := he
  exact wpAny_bind (wpAny_isInstance (T := "StopIteration") (b := true) ⟨o, ho, hc⟩ isSubtype_stop (wpAny_pure (hQ _ hk)))
/-- a tuple's end -/
theorem ne_tupIter {h : Heap} {it t : Addr} {i : Nat} (c : HotAt A x1 h) (hit : IsTupIter h it t i) : x1 ≠ it := by
  rintro rfl
  obtain ⟨_, o, vs, e, d, q⟩ := c
  obtain ⟨o', e', _, d'⟩ := hit
  rw [e] at e'
  cases e'
  rw [d] at d'
  cases d'
  simp at q
theorem next_tuple_end_hot {it t : Addr} {i : Nat} {items} {Q : Option Value → Shared → Prop} (c : HotAt A x1 s.heap) (hit : IsTupIter s.heap it t i) (ht : IsTup s.heap t items) (hx : items[i]? = none)
    (hQ : ∀ h', Heap.ExtBut it s.heap h' → Q none { s with heap := h' }) : wpAny (model prog w) A (pyNext (.ref it)) Q E s := by
  have ne := ne_tupIter c hit
  obtain ⟨o, ho, hc, hd⟩ := id hit
  obtain ⟨ol, hol, _, nl, hdl⟩ := ht
  unfold pyNext
  refine wpAny_bind (wpAny_attempt (wpAny_callSpecial?_slot (name := Str.ofString "__next__") hit.typeIs slot_tupleiter_next (wpAny_call_entry slot_tupleiter_next hit.typeIs entry_tupleiter_next ?_ (args_tupleiter_next _))))
  show wpAny _ _ (field (.ref it) 0 >>= _) _ _ s
  refine wpAny_bind (wpAny_field ho hd (x := .ref t) rfl ?_)
  show wpAny _ _ (if (Value.ref t == Value.none) = true then _ else _) _ _ s
  rw [if_neg (show ¬ ((Value.ref t == Value.none) = true) from Bool.false_ne_true)]
  refine wpAny_bind (wpAny_field ho hd (x := .int i 0) rfl (wpAny_bind (wpAny_seqItems hol hdl ?_)))
  simp only [Int.toNat_natCast, hx]
  refine wpAny_bind (wpAny_rule (wpAny_bind (wpAny_setField ho hd (by simp) ?_)))
  refine wpAny_bind (stop_hot (x1 := x1) (hot_ext (hot_in c) fun b e => ?_) fun h' e k he => ?_)
  · rw [Heap.get?_update_other _ _ ne.symm]; exact e
  · obtain ⟨oe, hoe, hce⟩ := he
    exact wpAny_bind (wpAny_isInstance (T := "StopIteration") (b := true) ⟨oe, hoe, hce⟩ isSubtype_stop (wpAny_pure (hQ h' fun b o' nb q => k b o' ((Heap.SameBut.update ..).extBut b o' nb q))))
theorem unpackItems_hot {t : Addr} {items : Array Value} {Q : List Value → Shared → Prop} (c : HotAt A x1 s.heap) (ht : IsTup s.heap t items)
    (hQ : ∀ h', Heap.ExtBut s.heap.objs.size s.heap h' → Q items.toList { s with heap := h' }) : wpAny (model prog w) A (unpackItems (.ref t) items.size none) Q E s := by
  have hlt : t ≠ s.heap.objs.size := by obtain ⟨o, ho, _⟩ := ht; exact Nat.ne_of_lt (Heap.lt_size ho)
  have nx : x1 ≠ s.heap.objs.size := by obtain ⟨_, o, vs, e, _⟩ := c; exact Nat.ne_of_lt (Heap.lt_size e)
  unfold unpackItems
  refine wpAny_bind ?_
  unfold notIterableAtAll
  refine wpAny_bind (wpAny_specialOf ht.typeIs slot_tuple_iter.lookup (wpAny_pure ?_))
  simp only [Bool.false_eq_true, if_false]
  refine wpAny_bind (wpAny_holding (iter_tuple ht (wpAny_bind (wpAny_holding (draw_tuple hlt items.size 0 _ _ ⟨_, Heap.get?_push_size _ rfl, rfl, rfl⟩ (ht.push _) (by omega) fun h₁ hit₁ hs₁ => ?_)))))
  have hall : List.take items.size (List.drop 0 items.toList) = items.toList := by rw [List.drop_zero]; exact List.take_of_length_le (by simp)
  rw [hall, if_neg (by simp)]
  refine wpAny_bind (wpAny_holding (next_tuple_end_hot (x1 := x1) (hot_ext c fun o e => hs₁.extBut _ _ nx (Heap.get?_push_of_some _ e)) hit₁ ((ht.push _).extBut hs₁.extBut hlt) (by simp) fun h₂ he₂ => ?_))
  simp only [Option.isSome_none, Bool.false_eq_true, if_false]
  exact wpAny_pure (hQ h₂ fun b o hb e => he₂ b o hb (hs₁.extBut b o hb (Heap.get?_push_of_some _ e)))
theorem assign_Tuple_hot {env : Env} {elts : List Expr} {k} {pos : Pos} {t : Addr} {items : Array Value} {Q : Unit → Shared → Prop} (c : HotAt A x1 s.heap) (ht : IsTup s.heap t items) (hn : (assignEach elts env).length = items.size) (hstar : (assignEach elts env).findIdx? (·.1) = none)
    (h : ∀ h', Heap.ExtBut s.heap.objs.size s.heap h' → wpAny (model prog w) A (assignInOrder ((assignEach elts env).map (·.2)) items.toList) Q E { s with heap := h' }) : wpAny (model prog w) A (assign (.Tuple elts k pos) env (.ref t)) Q E s := by
  rw [assign_Tuple]
  refine wpAny_bind (wpAny_standAt ?_)
  unfold unpack
  rw [hn, hstar]
  exact wpAny_bind (wpAny_holding (unpackItems_hot c ht h))
end
end Mh
set_option Elab.async false
set_option linter.all false
set_option maxRecDepth 100000
set_option maxHeartbeats 4000000
/-! Nc: list comprehensions over zip, and pairs unpacked, while an exception is handled. -/
namespace Mh
open PySem PySem.Spec PyProof.Rows HotX L2 L2H
abbrev St := L2.St
/-- wherever the context holds, the handled exception stands bare -/
def HotI (X : Cx) : Prop := ∀ (pins : List (Addr × Obj)) (σ : St) (H : Hp) (s : Shared), Inv X pins σ H s → ∃ x1, HotAt X.A x1 s.heap
theorem HotI.of {X : Cx} (c : HotC X) : HotI X := fun _ _ _ _ I => c.at I
theorem HotI.blk {X : Cx} (c : HotC X) {pins : List (Addr × Obj)} {σ : St} {H : Hp} {s : Shared} {scope : Scope} {e : Env} {fp : List Addr} (I : Inv X pins σ H s) (hf : ∀ b ∈ fp, FpOk X pins H b) : HotI (X.blk s H scope e fp) := fun pins' σ' H' s' I' => by
  obtain ⟨p, ⟨hh, v1, e1, c1⟩, hp⟩ := c
  obtain ⟨a1, a2, a3, a4, a5⟩ := I.pin p (List.mem_append_left _ hp)
  refine ⟨p.1, hh, p.2, v1, I'.base.keep p.1 p.2 a1 a2 (fun z => ?_) (fun z => ?_), e1, c1⟩
  · exact (List.mem_cons.mp (I.stkSub p.1 z)).elim a3 a4
  · obtain ⟨_, _, _, _, _, f5⟩ := hf _ z
    exact f5 p (List.mem_append_left _ hp) rfl
/-- what an iterator does there -/
structure TurnI (P : Program) (w : World) (K : PySem.W.Frag) (tg : Expr) (J : It) (fp : List Addr) (it : Addr) (tn : Nat → Heap → Prop) : Prop where
  obj : ∀ i h, tn i h → ∀ b ∈ fp, ∃ o, h.get? b = some o ∧ ∀ v, o.data ≠ .cell v
  keep : ∀ i h h', tn i h → (∀ b ∈ fp, ∀ o, h.get? b = some o → h'.get? b = some o) → tn i h'
  item : ∀ (X : Cx), X.prog = P → X.w = w → X.K = K → HotI X → ∀ (i : Nat) (pins : List (Addr × Obj)) (s : Shared) (σ : St) (H : Hp) (E : Value → Shared → Prop), Inv X pins σ H s → (∀ b ∈ fp, FpOk X pins H b) → tn i s.heap → J.go i H →
    wpAny (model P w) X.A (pyNext (.ref it)) (fun r s1 => ∃ u, r = some u ∧ wpAny (model P w) X.A (letOwnedTupleGo tg (.ref it) u) (fun _ s2 => ∃ x H', Inv X pins σ H' s2 ∧ RelV x u ∧ J.yld i H x H' ∧ tn (i + 1) s2.heap ∧ ∀ b ∈ fp, H' b = none) E s1) E s
  done : ∀ (X : Cx), X.prog = P → X.w = w → X.K = K → HotI X → ∀ (i : Nat) (pins : List (Addr × Obj)) (s : Shared) (σ : St) (H : Hp) (E : Value → Shared → Prop), Inv X pins σ H s → (∀ b ∈ fp, FpOk X pins H b) → tn i s.heap → J.stop i H →
    wpAny (model P w) X.A (pyNext (.ref it)) (fun r s1 => r = none ∧ Inv X pins σ H s1) E s
  self : ∀ (A : Around) (i : Nat) (s : Shared) (Q : Value → Shared → Prop) (E : Value → Shared → Prop), tn i s.heap → Q (.ref it) s → wpAny (model P w) A (pyIter (.ref it)) Q E s
/-- two lists, the first one no longer than the other -/
def Itq (K : PySem.W.Frag) (a b : Addr) : It := ⟨fun i H => ∃ (xs ys : List V) (x y : V), SqL K H a xs ∧ SqL K H b ys ∧ xs[i]? = some x ∧ ys[i]? = some y,
  fun i H v H' => ∃ T x y, v = .ref T ∧ H T = none ∧ H' = upd H T (.tup [x, y]) ∧ (∀ xs, SqL K H a xs → xs[i]? = some x) ∧ ∀ ys, SqL K H b ys → ys[i]? = some y,
  fun i H => ∃ xs : List V, SqL K H a xs ∧ xs.length ≤ i⟩
theorem turn_zipI {P : Program} {w : World} {K : PySem.W.Frag} {elts : List Expr} {kk : Nat} {tpos : Pos} {a b z TI TO i1 i2 : Addr} (D : ZipApart z TI TO i1 i2 a b) :
    TurnI P w K (.Tuple elts kk tpos) (Itq K a b) [z, TI, TO, i1, i2] z (fun i h => IsZip h z TI TO .none ∧ IsPair h TI (.ref i1) (.ref i2) ∧ (∃ x y, IsPair h TO x y) ∧ h.IsListIter i1 a i ∧ h.IsListIter i2 b i) where
  obj := fun i h st c hc => by
    obtain ⟨hz, hTI, ⟨x, y, hTO⟩, ⟨o1, e1, _, d1⟩, ⟨o2, e2, _, d2⟩⟩ := st
    rcases (by simpa using hc : c = z ∨ c = TI ∨ c = TO ∨ c = i1 ∨ c = i2) with rfl | rfl | rfl | rfl | rfl
    · exact ⟨_, hz, fun v q => nomatch q⟩
    · exact ⟨_, hTI, fun v q => nomatch q⟩
    · exact ⟨_, hTO, fun v q => nomatch q⟩
    · exact ⟨o1, e1, fun v q => by rw [d1] at q; cases q⟩
    · exact ⟨o2, e2, fun v q => by rw [d2] at q; cases q⟩
  keep := fun i h h' st k => by
    obtain ⟨hz, hTI, ⟨x, y, hTO⟩, h1, h2⟩ := st
    exact ⟨k z (by simp) _ hz, k TI (by simp) _ hTI, ⟨x, y, k TO (by simp) _ hTO⟩, h1.at fun o q => k i1 (by simp) o q, h2.at fun o q => k i2 (by simp) o q⟩
  item := by
    intro X hP hw hK hc i pins s σ H E I hf st hg
    subst hP hw hK
    obtain ⟨hz, hTI, ⟨x0, y0, hTO⟩, h1, h2⟩ := st
    obtain ⟨xs, ys, x, y, hqx, hqy, hx, hy⟩ := hg
    obtain ⟨its, rv, p, _⟩ := I.list hqx
    obtain ⟨its2, rv2, p2, _⟩ := I.list hqy
    obtain ⟨u, hu, ru⟩ := rv.get hx
    obtain ⟨u2, hu2, ru2⟩ := rv2.get hy
    have hzl : z < s.heap.objs.size := Heap.lt_size hz
    refine wpAny_pyNext_zip_item D hz hTI hTO h1 h2 p.isList p2.isList (x := u) (y := u2) (by simpa using hu) (by simpa using hu2) fun h' z' TO' h1' h2' hT hsz hk => ?_
    refine ⟨_, rfl, wpAny_letOwnedTupleGo_zip (s := { s with heap := h' }) z' fun h'' z'' sb => ?_⟩
    have hT2 : h''.get? s.heap.objs.size = some { cls := .type "tuple", data := .seq #[u, u2] } := (sb.2 _ (Nat.ne_of_gt hzl)).trans hT
    have new : ObjOk X.prog X.w (upd H s.heap.objs.size (.tup [x, y])) h'' s.heap.objs.size (.tup [x, y]) := ⟨by show 2 ≤ sizeLine; decide, [u, u2], .cons ru (.cons ru2 .nil), ⟨_, hT2, rfl, _, rfl⟩⟩
    have I1 : Inv X pins σ (upd H s.heap.objs.size (.tup [x, y])) { s with heap := h'' } := I.turnedNew (t' := s.toks) (ch := [z, TI, TO, i1, i2])
      (fun c o hb q => (sb.2 c (fun q' => hb (by simp [q']))).trans (hk c o (fun q' => hb (by simp [q'])) (fun q' => hb (by simp [q'])) (fun q' => hb (by simp [q'])) (fun q' => hb (by simp [q'])) q)) hf (Nat.le_refl _) new
    refine ⟨.ref s.heap.objs.size, _, I1, rfl, ⟨_, x, y, rfl, I.hok.fresh (Nat.le_refl _), rfl, fun l hl => by rw [I.list_inj hl hqx]; exact hx, fun l hl => by rw [I.list_inj hl hqy]; exact hy⟩,
      ⟨z'', (sb.2 _ D.TIz).trans (hk _ _ D.TIz D.TITO D.TIi1 D.TIi2 hTI), ⟨u, u2, (sb.2 _ D.TOz).trans TO'⟩, h1'.at fun o q => (sb.2 _ D.i1z).trans q, h2'.at fun o q => (sb.2 _ D.i2z).trans q⟩, fun c hcm => ?_⟩
    have hlt : c < s.heap.objs.size := by
      rcases (by simpa using hcm : c = z ∨ c = TI ∨ c = TO ∨ c = i1 ∨ c = i2) with rfl | rfl | rfl | rfl | rfl
      · exact hzl
      · exact Heap.lt_size hTI
      · exact Heap.lt_size hTO
      · obtain ⟨_, e1, _⟩ := h1; exact Heap.lt_size e1
      · obtain ⟨_, e2, _⟩ := h2; exact Heap.lt_size e2
    rw [upd_ne (Nat.ne_of_lt hlt)]
    exact (hf c hcm).1
  done := by
    intro X hP hw hK hc i pins s σ H E I hf st hg
    subst hP hw hK
    obtain ⟨hz, hTI, ⟨x0, y0, hTO⟩, h1, h2⟩ := st
    obtain ⟨xs, hqx, hend⟩ := hg
    obtain ⟨its, rv, p, _⟩ := I.list hqx
    have l1 := rv.length
    obtain ⟨x1, hot⟩ := hc _ _ _ _ I
    exact next_zip_end_hot hot D hz hTI hTO h1 p.isList (by simp; omega) fun h' hk => ⟨rfl, I.turnedL (t' := s.toks) (ch := [z, TI, TO, i1, i2])
      (fun c o hb q => hk c o (fun q' => hb (by simp [q'])) (fun q' => hb (by simp [q'])) (fun q' => hb (by simp [q'])) (fun q' => hb (by simp [q'])) q) hf⟩
  self := fun A i s Q E st h => wpAny_pyIter_zip st.1 h
def PIIE (X : Cx) (pins : List (Addr × Obj)) (σ : St) (tg : Expr) (R : It → Hp → Prop) (itv : Value) (s2 : Shared) : Prop :=
  ∃ (it : Addr) (fp : List Addr) (tn : Nat → Heap → Prop) (J : It) (H' : Hp), itv = .ref it ∧ Inv X pins σ H' s2 ∧ TurnI X.prog X.w X.K tg J fp it tn ∧ tn 0 s2.heap ∧ (∀ b ∈ fp, FpOk X pins H' b) ∧ R J H'
structure PII (X : Cx) (tg iter : Expr) (wi : TI) : Prop where
  run : ∀ (pins : List (Addr × Obj)) (s : Shared) (σ : St) (H : Hp) (R : It → Hp → Prop), Inv X pins σ H s → wi σ H R → wpAny (model X.prog X.w) X.A (eval iter X.env) (fun v s1 => wpAny (model X.prog X.w) X.A (pyIter v) (PIIE X pins σ tg R) X.xe s1) X.xe s
def iZipq (K : PySem.W.Frag) (ta : TA) : TI := fun σ H R => ta σ H fun vs H1 => ∃ a b xs ys, vs = [.ref a, .ref b] ∧ SqL K H1 a xs ∧ SqL K H1 b ys ∧ R (Itq K a b) H1
theorem pi_zipI {X : Cx} {e e2 : Expr} {ta : TA} {p pos tpos : Pos} {elts : List Expr} {kk : Nat} (hg : Gl X "zip") (hm : X.mg "zip" = none) (ha : PA X [e, e2] ta)
    (hs : starEach [e, e2] X.env = (false, eval e X.env) :: starEach [e2] X.env := by rfl) (hpl : (backTo pos (starEach [e2] X.env)).any (·.1) = false := by rfl) :
    PII X (.Tuple elts kk tpos) (.Call (.Name "zip" p) [e, e2] [] pos) (iZipq X.K ta) := by
  refine ⟨fun pins s σ H R I h => Call_ (ld_blt I hg hm PyProof.Rows.boot_zip (PyProof.Rows.callWith_type1 (thn (ha.run pos pins s σ H _ I h) fun us s1 ⟨vs, H1, I1, r1, q1⟩ => ?_) hs hpl))⟩
  obtain ⟨a, b, xs, ys, rfl, hqx, hqy, q⟩ := q1
  obtain ⟨u1, u2, rfl, ru1, ru2⟩ : ∃ u1 u2, us = [u1, u2] ∧ RelV (.ref a) u1 ∧ RelV (.ref b) u2 := by
    cases r1 with
    | cons r rr => cases rr with
      | cons r' rr => cases rr; exact ⟨_, _, rfl, r, r'⟩
  cases ru1
  cases ru2
  obtain ⟨its, rv, p1, _⟩ := I1.list hqx
  obtain ⟨its2, rv2, p2, _⟩ := I1.list hqy
  have la : a < s1.heap.objs.size := p1.lt
  have lb : b < s1.heap.objs.size := p2.lt
  refine call_zip_2 p1.isList p2.isList fun h' hz hTI hTO h1 h2 hsz hk => wpAny_pyIter_zip hz ?_
  have I2 : Inv X pins σ H1 { s1 with heap := h' } := I1.kept (t' := s1.toks) hk
  refine ⟨_, [s1.heap.objs.size + 4, s1.heap.objs.size + 2, s1.heap.objs.size + 3, s1.heap.objs.size, s1.heap.objs.size + 1], _, _, H1, rfl, I2, turn_zipI (PySem.W.ktu_apart s1.heap.objs.size a b la lb), ⟨hz, hTI, ⟨_, _, hTO⟩, h1, h2⟩, fun c hcm => ?_, q⟩
  have hle : s1.heap.objs.size ≤ c := by
    rcases (by simpa using hcm : c = s1.heap.objs.size + 4 ∨ c = s1.heap.objs.size + 2 ∨ c = s1.heap.objs.size + 3 ∨ c = s1.heap.objs.size ∨ c = s1.heap.objs.size + 1) with z | z | z | z | z <;> rw [z] <;> first | exact Nat.le_refl _ | exact Nat.le_add_right _ _
  obtain ⟨f0, f1, f2, f3, f4, f5⟩ := I1.fpOk hle (I1.hok.fresh hle)
  exact ⟨f0, f1, f2, f3, f4, f5⟩
end Mh
set_option Elab.async false
set_option linter.all false
set_option maxRecDepth 100000
set_option maxHeartbeats 4000000
/-! Nd: a list comprehension while an exception is handled. -/
namespace Mh
open PySem PySem.Spec PyProof.Rows HotX L2 L2H
theorem pg_tupI {X : Cx} {es : List Expr} {k : Nat} {pos : Pos} {t : TGs} {n : Nat} (hc : HotI X) (h : PGs X es t) (hn : (assignEach es X.env).length = n := by rfl) (hst : (assignEach es X.env).findIdx? (·.1) = none := by rfl) : PG X (.Tuple es k pos) (gTup X.K n t) := by
  refine ⟨fun pins s σ H v u Q I r ⟨a, xs, e1, hq, hl, hw⟩ => ?_⟩
  subst e1
  cases r
  obtain ⟨its, rv, ht, hz⟩ := I.tuple hq
  obtain ⟨x1, hot⟩ := hc _ _ _ _ I
  exact assign_Tuple_hot hot ht (by simp [hn, ← hl, rv.length]) hst fun h' hx => h.run pins _ σ H xs _ Q (I.kept (t' := s.toks) fun b o e => hx b o (Nat.ne_of_lt (Heap.lt_size e)) e) (by simpa using rv) hw
theorem pe_lcI {X : Cx} {elt tg iter : Expr} {ifs : List Expr} {scope : Scope} {own : List (Str × Nat)} {pos : Pos} {wi : TI} {g : TG} {tt : TT} {te : TE} (hc : HotC X) (hN : X.N.Nodup) (hi : PII X tg iter wi) (ok : BlkOk X.N X.env.scope scope own)
    (hg : ∀ (s : Shared) (H : Hp) (C : Addr) (cl : List (Str × Addr)) (fp : List Addr), HotI (X.blk s H scope (compEnvC scope cl C X.env) fp) → PG (X.blk s H scope (compEnvC scope cl C X.env) fp) tg g) (ht : ∀ (s : Shared) (H : Hp) (C : Addr) (cl : List (Str × Addr)) (fp : List Addr), PTs (X.blk s H scope (compEnvC scope cl C X.env) fp) ifs tt)
    (he : ∀ (s : Shared) (H : Hp) (C : Addr) (cl : List (Str × Addr)) (fp : List Addr), PE (X.blk s H scope (compEnvC scope cl C X.env) fp) elt te) (hs : ∀ x, foldedSetIterable iter X.env x = pure x := by intro _; rfl) :
    PE X (.ListComp elt [⟨tg, iter, ifs, 0⟩] scope pos) (tLc wi g tt te (own.map (·.2))) := by
  refine ⟨fun pins s σ H Q I h => ?_⟩
  rw [eval_ListComp]
  have hfree : ∀ y ∈ scope.names, y.2 = .free → ∃ c, X.env.cells.lookup y.1 = some c := fun y hy e => (ok.free y hy e).elim (fun k => I.ok.has _ (.inl k)) (fun k => I.ok.has _ (.inr k))
  refine wpAny_comprehension_free rfl hs (closure_ok hfree) ok.kind (fun y hy e => by rw [ok.uniq y hy, e]) (thn (hi.run pins s σ H _ I h) fun xv s1 hx => thn hx fun itv s2 ⟨it, fp, tn, J, H2, e, I2, T, st2, f2, q⟩ => ?_)
  subst e
  refine wpAny_newObj_type (newEnv_comp ?_) (by show 0 ≤ sizeLine; decide)
  obtain ⟨D, hD⟩ : ∃ D, s2.heap.objs.size = D := ⟨_, rfl⟩
  rw [hD]
  have hDn : H2 D = none := I2.hok.fresh (Nat.le_of_eq hD)
  obtain ⟨W, ⟨m0, w0⟩, turn⟩ := q D hDn
  obtain ⟨s3, hs3⟩ : ∃ s3 : Shared, ({ s2 with heap := s2.heap.push { cls := .type "list", data := .seq ([] : List Value).toArray } } : Shared) = s3 := ⟨_, rfl⟩
  have I3 : Inv X pins σ (upd H2 D (.lst [])) s3 := by
    rw [← hs3]
    refine I2.laid (t' := s2.toks) (fun b o e => Heap.get?_push_of_some _ e) (Nat.le_of_eq hD) ⟨Nat.zero_le _, [], 0, .nil, ?_⟩
    rw [← hD]; exact Heap.get?_push_size _ rfl
  have h3 : s3.heap = s2.heap.push { cls := .type "list", data := .seq ([] : List Value).toArray } := by rw [← hs3]
  have f3 : ∀ b ∈ fp, FpOk X pins (upd H2 D (.lst [])) b ∧ b < s3.heap.objs.size := fun b hb => by
    obtain ⟨o, e, _⟩ := T.obj _ _ st2 b hb
    have hlt := Heap.lt_size e
    refine ⟨⟨?_, (f2 b hb).2⟩, by rw [h3, Heap.size_push]; exact Nat.lt_succ_of_lt hlt⟩
    rw [upd_ne (by rw [← hD]; exact Nat.ne_of_lt hlt)]; exact (f2 b hb).1
  have st3 : tn 0 s3.heap := T.keep _ _ _ st2 fun b _ o e => by rw [h3]; exact Heap.get?_push_of_some _ e
  have I4 := block_start I3 ok hN f3
  have hot4 := fun e => HotI.blk (scope := scope) (e := e) hc I3 fun b hb => (f3 b hb).1
  have pg := hg s3 (upd H2 D (.lst [])) s3.heap.objs.size (cellsFrom (s3.heap.objs.size + 1) scope.names (cloFrom X.env.cells scope.names [])) fp (hot4 _)
  have pt := ht s3 (upd H2 D (.lst [])) s3.heap.objs.size (cellsFrom (s3.heap.objs.size + 1) scope.names (cloFrom X.env.cells scope.names [])) fp
  have pe := he s3 (upd H2 D (.lst [])) s3.heap.objs.size (cellsFrom (s3.heap.objs.size + 1) scope.names (cloFrom X.env.cells scope.names [])) fp
  have hot5 := hot4 (compEnvC scope (cellsFrom (s3.heap.objs.size + 1) scope.names (cloFrom X.env.cells scope.names [])) s3.heap.objs.size X.env)
  rw [hs3]
  show codeAny _ _ (.compStart (.ListComp elt [⟨tg, iter, ifs, 0⟩] scope pos) 0 (.ref it) (.ref D) (compEnvC scope (cellsFrom (s3.heap.objs.size + 1) scope.names (cloFrom X.env.cells scope.names [])) s3.heap.objs.size X.env)) (compPost (model X.prog X.w) X.A X.xe _ (EP X pins σ Q) (.ref D) s3.heap.objs.size) { s3 with heap := pushCells (s3.heap.push { cls := .type "dict", data := .dict #[] }) scope.names }
  have nfp : ∀ b ∈ fp, (upd H2 D (.lst [])) b = none := fun b hb => (f3 b hb).1.1
  obtain ⟨ce, hce⟩ : ∃ ce, compEnvC scope (cellsFrom (s3.heap.objs.size + 1) scope.names (cloFrom X.env.cells scope.names [])) s3.heap.objs.size X.env = ce := ⟨_, rfl⟩
  rw [hce] at I4 pg pt pe hot5 ⊢
  have cL : ce.locals = s3.heap.objs.size := by subst hce; rfl
  obtain ⟨H3, hH3⟩ : ∃ H3, upd H2 D (.lst []) = H3 := ⟨_, rfl⟩
  rw [hH3] at I3 I4 pg pt pe w0 nfp f3 hot5
  obtain ⟨s4, hs4⟩ : ∃ s4 : Shared, ({ s3 with heap := pushCells (s3.heap.push { cls := .type "dict", data := .dict #[] }) scope.names } : Shared) = s4 := ⟨_, rfl⟩
  rw [hs4] at I4 ⊢
  have st4 : tn 0 s4.heap := T.keep _ _ _ st3 fun b _ o e => by rw [← hs4]; exact pushCells_keeps _ _ _ _ (Heap.get?_push_of_some _ e)
  have stat : ∀ {σ' : St} {H' : Hp} {s' : Shared}, Inv (X.blk s3 H3 scope ce fp) [] σ' H' s' → (∀ b ∈ fp, H' b = none) → ∀ b ∈ fp, FpOk (X.blk s3 H3 scope ce fp) [] H' b := fun {σ' H' s'} I' hn b hb =>
    ⟨hn b hb, (I'.ok.exf b hb).1, I'.ok.exfs b hb, .inl hb, fun x c e => (I'.ok.exf b hb).2 x c e, fun p hp => absurd (show p ∈ ([] : List (Addr × Obj)) ++ [] from hp) (by simp)⟩
  suffices loop : codeAny (model X.prog X.w) X.A (.compLoop (.ListComp elt [⟨tg, iter, ifs, 0⟩] scope pos) 0 (.ref it) (.ref D) ce) (compPost (model X.prog X.w) X.A X.xe none (EP X pins σ Q) (.ref D) s3.heap.objs.size) s4 from codeAny_compStart_list loop (T.self X.A 0 _ _ _ st4 loop)
  refine compLoop_any (fun n s' => ∃ i H', Inv (X.blk s3 H3 scope ce fp) [] (wipe σ (own.map (·.2))) H' s' ∧ tn i s'.heap ∧ (∀ b ∈ fp, H' b = none) ∧ W i n H') ?_ m0 ⟨0, H3, I4, st4, nfp, w0⟩
  rintro n s5 ⟨i, H5, I5, st5, n5, w5⟩
  rcases turn i n H5 w5 with ⟨stop, qq⟩ | ⟨go, Nx, hNx, step⟩
  · refine thnF (T.done (X.blk s3 H3 scope ce fp) rfl rfl rfl hot5 i [] s5 _ H5 (fun _ _ => False) I5 (stat I5 n5) st5 stop) fun r s6 ⟨hr, I6⟩ => ?_
    subst hr
    have I7 : Inv X pins σ H5 s6 := I3.call' (ch := fp) I6.os I6.base I6.hok I6.bare fun b hb => ⟨(f3 b hb).1.2.2.2.1, (f3 b hb).1.2.1, (f3 b hb).1.2.2.2.2.1, (f3 b hb).1.2.2.2.2.2⟩
    have nC : H5 s3.heap.objs.size = none := by have z : H5 ce.locals = none := I6.free; rw [cL] at z; exact z
    obtain ⟨m, hn, _⟩ := I6.loc
    have hn : s6.heap.Ns ce.locals m := hn
    rw [cL] at hn
    refine ⟨m, hn, fun h'' sb => ?_⟩
    obtain ⟨f0, f1, f2, f3, f4, f5⟩ := I3.fpOk (Nat.le_refl _) nC
    exact ⟨.ref D, H5, I7.turned (t' := s6.toks) (fun b o hb e => (sb.2 b hb).trans e) f0 f1 f3 f4 f5, rfl, qq⟩
  · refine thnF (T.item (X.blk s3 H3 scope ce fp) rfl rfl rfl hot5 i [] s5 _ H5 (fun _ _ => False) I5 (stat I5 n5) st5 go) fun r s6 ⟨u, hr, h6⟩ => ?_
    subst hr
    refine thnF h6 fun _ s7 ⟨x, H7, I7, r7, y7, st7, n7⟩ => ?_
    have I7' := I7.pinned (stat I7 n7) (T.obj _ _ st7)
    refine thnF (pg.run _ s7 _ H7 x u _ I7' r7 (step x H7 y7)) fun _ s8 ⟨σ8, H8, I8, hw8, q8⟩ => thnF (pt.run _ s8 σ8 H8 _ I8 q8) fun b s9 ⟨H9, I9, q9⟩ => ?_
    have fin : ∀ {s' : Shared} {H' : Hp}, Inv (X.blk s3 H3 scope ce fp) ([] ++ pinsAt fp s7.heap) σ8 H' s' → Nx H' → ∃ m, m < n ∧ ∃ i H', Inv (X.blk s3 H3 scope ce fp) [] (wipe σ (own.map (·.2))) H' s' ∧ tn i s'.heap ∧ (∀ b ∈ fp, H' b = none) ∧ W i m H' := fun {s' H'} I' nx => by
      obtain ⟨m', hm, w'⟩ := hNx H' nx
      have pin' : ∀ b ∈ fp, ∀ o, s7.heap.get? b = some o → s'.heap.get? b = some o ∧ H' b = none := fun b hb o e => have z := I'.pin (b, o) (List.mem_append_right _ (List.mem_append_right _ (mem_pinsAt hb e))); ⟨z.1, z.2.1⟩
      refine ⟨m', hm, i + 1, H', (I'.unpinned (pins := [])).weak (by rw [← hw8, wipe_length]) (fun j v e => ?_), T.keep _ _ _ st7 fun b hb o e => (pin' b hb o e).1, fun b hb => ?_, w'⟩
      · rw [← hw8] at e; exact (wipe_some e).1
      · obtain ⟨o, e, _⟩ := T.obj _ _ st7 b hb; exact (pin' b hb o e).2
    cases b with
    | false => simp only [Bool.false_eq_true, if_false] at q9 ⊢; exact fin I9 q9
    | true =>
      simp only [if_true] at q9 ⊢
      exact thnF (pe.run _ s9 σ8 H9 _ I9 q9) fun z s10 ⟨yv, H10, I10, r10, acc, hD10, hz10, nx⟩ => app_ok (X := X.blk s3 H3 scope ce fp) I10 hD10 hz10 r10 fun s11 I11 => fin I11 nx
end Mh
set_option Elab.async false
set_option linter.all false
set_option maxRecDepth 100000
set_option maxHeartbeats 4000000
/-! Ne: the def that names an exception that is handled. -/
namespace Mh
open PySem PySem.Spec PyProof.Rows HotX L2 L2H
/-- the names that such a def uses -/
def NN : List Str := ["e", "some", "labels", "word", "good"]
/-- isinstance(e, c), c by c -/
def isOf : List Expr → Option (List Str)
  | [] => some []
  | .Call (.Name f _) [.Name e _, .Name c _] [] _ :: es => if f = "isinstance" ∧ e = "e" then (isOf es).map (c :: ·) else none
  | _ => none
def namesOf (sc : Scope) : List Stmt → Option (Str × List Str)
  | [.Assign [.Name s1 _] (.List es _) _, .Assign [.Name s2 _] (.Constant (.str L) _ _) _,
      .Return (some (.Call (.Attribute (.Constant (.str J) _ _) m1 ap) [.ListComp (.Name w1 _) [⟨.Tuple [.Name w2 _, .Name g2 _] _ _, .Call (.Name z _) [.Call (.Attribute (.Name s3 _) m2 ap2) [.Constant (.str S) _ _] [] cp2, .Name s4 _] [] _, [.Name g3 _], 0⟩] sc2 _] [] cp)) _] =>
    if (s1 = "some" ∧ s2 = "labels" ∧ s3 = "labels" ∧ s4 = "some" ∧ w1 = "word" ∧ w2 = "word" ∧ g2 = "good" ∧ g3 = "good" ∧ z = "zip" ∧ m1 = "join" ∧ m2 = "split" ∧ J = " " ∧ S = " ") ∧
      (ap2.endLine == cp2.line) = true ∧ (ap.endLine == cp.line) = true ∧ blkC NN sc sc2 [("word", 3), ("good", 4)] = true ∧ Mi.locB sc "some" = true ∧ Mi.locB sc "labels" = true ∧ Mi.locB sc "e" = true ∧ Mi.locB sc2 "word" = true ∧ Mi.locB sc2 "good" = true ∧ Mi.glB sc "zip" = true ∧ Mi.glB sc "isinstance" = true
    then (isOf es).map (L, ·) else none
  | _ => none
def nameRes (L : Str) (fl : List Bool) : Str := Txt.join " " (((Txt.split L " ").zip fl).filterMap fun p => if p.2 = true then some p.1 else none)
/-- what the class named c says of D's instances -/
def ClsIs (X : Cx) (D : Addr) (c : Str) (b : Bool) : Prop := Gl X c ∧ (c == ("__debug__" : Str)) = false ∧
  ((∃ C, X.mg c = some (.ref C) ∧ PySem.W.kitOne X.K (.ref D) (.ref C) = some b) ∨ (X.mg c = none ∧ ∃ n, bootBuiltins c = some (.type n) ∧ c ≠ "__name__" ∧ PySem.W.kitOne X.K (.ref D) (.type n) = some b))
section
variable {X : Cx} {a D : Addr} {oe : Obj}
theorem call_isP (C : ExcC X.K D) (hp : (a, oe) ∈ X.pn) (hz : Zc (.ref D) none oe) (hf : ∃ vs, oe.data = .fields vs) : CallR X (.builtin "isinstance") (rIsE X.K D a) := by
  intro pins s σ H xs us Q I r h
  obtain ⟨c, cv, b, rfl, hcv, e, q⟩ := h
  obtain ⟨u1, u2, rfl, r1, r2⟩ : ∃ u1 u2, us = [u1, u2] ∧ RelV (.ref a) u1 ∧ RelV c u2 := by
    cases r with
    | cons rx rr => cases rr with
      | cons rt rr => cases rr; exact ⟨_, _, rfl, rx, rt⟩
  cases r1
  have ec := hcv _ r2
  subst ec
  obtain ⟨hget, _⟩ := I.pin (a, oe) (List.mem_append_left _ hp)
  obtain ⟨vs, hv⟩ := hf
  have J : PySem.W.InstAt s.heap a oe D none := by
    obtain ⟨oc, od, oda, osl⟩ := oe
    obtain ⟨h1, h2⟩ := hz
    dsimp only at h1 h2 hv
    subst h1 h2 hv
    exact ⟨hget, rfl, rfl, trivial⟩
  exact PySem.W.kia_one (PySem.W.handS_kitx_exc C.hg C.hk C.hs C.hd C.ha C.hn C.ht C.hm) I.kIn J e (fun z => nomatch z) fun tk => ⟨.bl b, H, I.kept (t' := tk) fun _ _ z => z, rfl, q⟩
theorem pe_is {c : Str} {b : Bool} {p1 p2 p3 p4 : Pos} (C : ExcC X.K D) (hp : (a, oe) ∈ X.pn) (hz : Zc (.ref D) none oe) (hf : ∃ vs, oe.data = .fields vs) (hN : X.N[0]? = some ("e" : Str)) (hv : Vis X.env.scope "e") (hg : Gl X "isinstance") (hm : X.mg "isinstance" = none) (k : ClsIs X D c b) :
    PE X (.Call (.Name "isinstance" p1) [.Name "e" p2, .Name c p3] [] p4) (fun σ H Q => σ[0]? = some (some (.ref a)) ∧ Q (.bl b) H) := by
  have pv : PE X (.Name "e" p2) (tVar 0) := pe_var hN hv
  obtain ⟨g, d, ⟨Cc, m, kk⟩ | ⟨m, n, bo, nn, kk⟩⟩ := k
  · have pc : PE X (.Name c p3) (tC (.ref Cc)) := pe_glob (v := .ref Cc) g m rfl d
    exact Mi.PE.imp (pe_callB (call_isP C hp hz hf) hg hm (by decide +kernel) (pa_cons pv (pa_cons pc pa_nil))) fun σ H Q ⟨h1, h2⟩ => ⟨_, h1, .ref Cc, .ref Cc, b, rfl, fun u r => r, kk, h2⟩
  · have pc : PE X (.Name c p3) (tC (.ty n)) := pe_bltn (v := .ty n) g m bo rfl nn d
    exact Mi.PE.imp (pe_callB (call_isP C hp hz hf) hg hm (by decide +kernel) (pa_cons pv (pa_cons pc pa_nil))) fun σ H Q ⟨h1, h2⟩ => ⟨_, h1, .ty n, .type n, b, rfl, fun u r => r, kk, h2⟩
theorem pa_is (C : ExcC X.K D) (hp : (a, oe) ∈ X.pn) (hz : Zc (.ref D) none oe) (hf : ∃ vs, oe.data = .fields vs) (hN : X.N[0]? = some ("e" : Str)) (hv : Vis X.env.scope "e") (hg : Gl X "isinstance") (hm : X.mg "isinstance" = none) :
    ∀ {es : List Expr} {cs : List Str} {fl : List Bool}, isOf es = some cs → Paired (ClsIs X D) cs fl → PA X es (fun σ H Q => σ[0]? = some (some (.ref a)) ∧ Q (fl.map V.bl) H) := by
  intro es
  induction es with
  | nil =>
    intro cs fl h k
    simp only [isOf, Option.some.injEq] at h
    subst h
    cases k
    exact Mi.PA.imp pa_nil fun σ H Q h => h.2
  | cons e es ih =>
    intro cs fl h k
    unfold isOf at h
    split at h
    · rename_i z
      cases z
    · rename_i e1
      cases e1
      split at h
      · rename_i hq
        obtain ⟨rfl, rfl⟩ := hq
        simp only [Option.map_eq_some_iff] at h
        obtain ⟨cs', h1, rfl⟩ := h
        cases k with
        | cons k1 k2 =>
          exact Mi.PA.imp (pa_cons (pe_is C hp hz hf hN hv hg hm k1) (ih h1 k2)) fun σ H Q h => ⟨h.1, h.1, h.2⟩
      · cases h
    · cases h
theorem filt_get {L : List Str} {fl : List Bool} {i : Nat} {w : Str} {b : Bool} (hw : L[i]? = some w) (hb : fl[i]? = some b) : ((L.zip fl).take (i + 1)).filterMap (fun p => if p.2 = true then some p.1 else none) = ((L.zip fl).take i).filterMap (fun p => if p.2 = true then some p.1 else none) ++ (if b = true then [w] else []) := by
  have h : (L.zip fl)[i]? = some (w, b) := by rw [List.getElem?_zip_eq_some]; exact ⟨hw, hb⟩
  rw [List.take_add_one, List.filterMap_append, h]
  cases b <;> simp
theorem filt_sub {L : List Str} {fl : List Bool} : List.Sublist ((L.zip fl).filterMap (fun p => if p.2 = true then some p.1 else none)) L := by
  induction L generalizing fl with
  | nil => simp
  | cons x L ih =>
    cases fl with
    | nil => simp
    | cons b fl =>
      rw [List.zip_cons_cons]
      cases b with
      | true => rw [List.filterMap_cons_some (b := x) (by simp)]; exact (ih (fl := fl)).cons_cons x
      | false => rw [List.filterMap_cons_none (by simp)]; exact (ih (fl := fl)).cons x
theorem sum_sub {l m : List Str} (h : List.Sublist l m) : (l.map (·.length)).sum + l.length * (" " : Str).length ≤ (m.map (·.length)).sum + m.length * (" " : Str).length := by
  induction h with
  | slnil => exact Nat.le_refl _
  | cons x h ih => simp only [List.map_cons, List.sum_cons, List.length_cons, Nat.succ_mul]; omega
  | cons_cons x h ih => simp only [List.map_cons, List.sum_cons, List.length_cons, Nat.succ_mul]; omega
theorem names_ps (hot : HotC X) (C : ExcC X.K D) (hp : (a, oe) ∈ X.pn) (hz : Zc (.ref D) none oe) (hf : ∃ vs, oe.data = .fields vs) (hN : X.N = NN) {sc : Scope} (hsc : X.env.scope = sc) (hfn : ∀ y, X.fn y = true) (hm : X.mg "isinstance" = none) (hm2 : X.mg "zip" = none)
    {body : List Stmt} {L : Str} {cs : List Str} {fl : List Bool} (h : namesOf sc body = some (L, cs)) (k : Paired (ClsIs X D) cs fl) (hl : (Txt.split L " ").length ≤ fl.length) (hf2 : fl.length ≤ sizeLine) (hz1 : L.length + 2 ≤ sizeLine) (hz2 : ((Txt.split L " ").map (·.length)).sum + (Txt.split L " ").length * (" " : Str).length ≤ 16777216) :
    PSs X body (fun D σ H => σ.length = 5 ∧ σ[0]? = some (some (.ref a)) ∧ ∀ H', (∀ b o, H b = some o → H' b = some o) → D.rt (.str (nameRes L fl)) H') := by
  have nd : X.N.Nodup := by rw [hN]; decide +kernel
  unfold namesOf at h
  split at h
  · rename_i s1 _ es _ _ s2 _ L' _ _ _ J _ _ m1 ap w1 _ w2 _ g2 _ _ _ z _ s3 _ m2 ap2 S _ _ cp2 s4 _ _ g3 _ sc2 _ cp _
    split at h
    · rename_i hq
      obtain ⟨⟨rfl, rfl, rfl, rfl, rfl, rfl, rfl, rfl, rfl, rfl, rfl, rfl, rfl⟩, l1, l2, hb, c1, c2, c3, c4, c5, c6, c7⟩ := hq
      simp only [Option.map_eq_some_iff] at h
      obtain ⟨cs', h1, e⟩ := h
      cases e
      have gl : ∀ {x : Str}, Mi.glB sc x = true → Gl X x := fun {x} h => by
        have := (Mi.gl_of h).1
        rw [← hsc] at this; exact this
      have vis : ∀ {x : Str}, Mi.locB sc x = true → Vis X.env.scope x := fun {x} h => by
        rw [hsc]; exact (Mi.loc_of h).elim (fun k => .inl k) (fun k => .inr (.inl k))
      have loc : ∀ {x : Str}, Mi.locB sc x = true → Loc X.env.scope x := fun {x} h => by rw [hsc]; exact Mi.loc_of h
      have ok : BlkOk X.N X.env.scope sc2 [("word", 3), ("good", 4)] := by rw [hN, hsc]; exact blkOk_by hb
      have pv2 : ∀ {p : Pos}, PE X (.Name "labels" p) (tVar 2) := fun {p} => pe_var (by rw [hN]; rfl) (vis c2)
      have pv1 : ∀ {p : Pos}, PE X (.Name "some" p) (tVar 1) := fun {p} => pe_var (by rw [hN]; rfl) (vis c1)
      have hotb := fun (s : Shared) (H : Hp) (C : Addr) (cl : List (Str × Addr)) (fp : List Addr) => Mi.locOk_blk (X := X) (scope := sc2) (s := s) (H := H) (cl := cl) (a := C) (fp := fp)
      refine Mi.PSs.imp (pss_cons (ps_set (i := 1) nd (by rw [hN]; rfl) (loc c1) (pe_lst (pa_is C hp hz hf (by rw [hN]; rfl) (vis c3) (gl c7) hm h1 k)) rfl (.inl (hfn _))) (pss_cons (ps_set (i := 2) nd (by rw [hN]; rfl) (loc c2) pe_str rfl (.inl (hfn _)))
        (pss_one (ps_ret (pe_m1 F.slot_str_join F.type_str_join mt_join pe_str (pe_lcI (g := gTup X.K 2 (gCons (gName 3) (gCons (gName 4) gNil))) hot nd (pi_zipI (gl c6) hm2 (pa_cons (pe_split pv2 pe_str rfl rfl l1) (pa_cons pv1 pa_nil))) ok
          (fun s H Ca cl fp hI => pg_tupI (n := 2) hI (pgs_cons (pg_name (i := 3) nd (by rw [hN]; rfl) (hotb s H Ca cl fp _ c4).1 (hotb s H Ca cl fp _ c4).2) (pgs_cons (pg_name (i := 4) nd (by rw [hN]; rfl) (hotb s H Ca cl fp _ c5).1 (hotb s H Ca cl fp _ c5).2) pgs_nil)))
          (fun s H Ca cl fp => pts_one (pt_val (pe_var (i := 4) (by show X.N[4]? = _; rw [hN]; rfl) ((hotb s H Ca cl fp _ c5).1.elim (fun k => .inl k) (fun k => .inr (.inl k))))))
          (fun s H Ca cl fp => pe_var (i := 3) (by show X.N[3]? = _; rw [hN]; rfl) ((hotb s H Ca cl fp _ c4).1.elim (fun k => .inl k) (fun k => .inr (.inl k))))) rfl rfl l2))))) fun D σ H ⟨e1, e2, e3⟩ => ?_
      refine ⟨e2, by rw [List.length_map]; exact hf2, fun pS nS => ?_⟩
      have g2 : ((σ.set 1 (some (V.ref pS))).set 2 (some (.str L)))[2]? = some (some (.str L)) := by rw [List.getElem?_set_self (by simp [e1])]
      have g1 : ((σ.set 1 (some (V.ref pS))).set 2 (some (.str L)))[1]? = some (some (.ref pS)) := by rw [List.getElem?_set_ne (by decide), List.getElem?_set_self (by simp [e1])]
      refine ⟨⟨" ", rfl⟩, ⟨.str L, g2, ⟨L, rfl⟩, L, " ", rfl, rfl, by decide +kernel, hz1, fun pL nL => ⟨.ref pS, g1, pL, pS, (Txt.split L " ").map V.str, fl.map V.bl, rfl, .inl (.inl upd_same), ?_⟩⟩⟩
      have nLS : pS ≠ pL := fun e => by rw [e] at nL; rw [← e, upd_same] at nL; cases nL
      refine ⟨.inl (.inl (by rw [upd_ne nLS, upd_same])), fun Dd nD => ?_⟩
      obtain ⟨Hx, hHx⟩ : ∃ Hx, upd (upd H pS (.lst (fl.map V.bl))) pL (.lst ((Txt.split L " ").map V.str)) = Hx := ⟨_, rfl⟩
      have xL : Hx pL = some (.lst ((Txt.split L " ").map V.str)) := by rw [← hHx, upd_same]
      have xS : Hx pS = some (.lst (fl.map V.bl)) := by rw [← hHx, upd_ne nLS, upd_same]
      have xH : ∀ b o, H b = some o → Hx b = some o := fun b o h => by
        rw [← hHx, upd_ne (fun z => ?_), upd_ne (fun z => by rw [z, nS] at h; cases h)]
        · exact h
        · rw [z] at h; rw [upd_ne (fun z => by rw [z, nS] at h; cases h)] at nL; rw [nL] at h; cases h
      rw [hHx] at nD ⊢
      have nDL : pL ≠ Dd := fun e => by rw [← e, xL] at nD; cases nD
      have nDS : pS ≠ Dd := fun e => by rw [← e, xS] at nD; cases nD
      let acc := fun i => ((((Txt.split L " ").zip fl).take i).filterMap (fun p => if p.2 = true then some p.1 else none)).map V.str
      refine ⟨fun i m H' => i + m = (Txt.split L " ").length ∧ H' Dd = some (.lst (acc i)) ∧ (∀ b o, Hx b = some o → H' b = some o), ⟨(Txt.split L " ").length, by omega, upd_same, fun b o h => by rw [upd_ne (fun z => by rw [z, nD] at h; cases h)]; exact h⟩, ?_⟩
      rintro i m H' ⟨w1, w2, w3⟩
      have yL : SqL X.K H' pL ((Txt.split L " ").map V.str) := .inl (.inl (w3 _ _ xL))
      have yS : SqL X.K H' pS (fl.map V.bl) := .inl (.inl (w3 _ _ xS))
      by_cases hi : i < (Txt.split L " ").length
      · refine .inr ⟨⟨_, _, _, _, yL, yS, by rw [List.getElem?_map, List.getElem?_eq_getElem hi]; rfl, by rw [List.getElem?_map, List.getElem?_eq_getElem (Nat.lt_of_lt_of_le hi hl)]; rfl⟩, fun H2 => (i + 1) + (m - 1) = (Txt.split L " ").length ∧ H2 Dd = some (.lst (acc (i + 1))) ∧ (∀ b o, Hx b = some o → H2 b = some o), fun H2 h => ⟨m - 1, by omega, h⟩, ?_⟩
        rintro x H2 ⟨Tp, u, v, rfl, nT, rfl, q1, q2⟩
        have q1 := q1 _ yL
        have q2 := q2 _ yS
        rw [List.getElem?_map, List.getElem?_eq_getElem hi] at q1
        rw [List.getElem?_map, List.getElem?_eq_getElem (Nat.lt_of_lt_of_le hi hl)] at q2
        cases q1
        cases q2
        have nDT : Dd ≠ Tp := fun e => by rw [← e, w2] at nT; cases nT
        refine ⟨Tp, _, rfl, .inl (.inl upd_same), rfl, _, _, rfl, _, _, rfl, rfl, ?_⟩
        have sl : (((σ.set 1 (some (V.ref pS))).set 2 (some (.str L)))).length = 5 := by simp [e1]
        obtain ⟨σ2, hσ2⟩ : ∃ σ2, ((σ.set 1 (some (V.ref pS))).set 2 (some (.str L))) = σ2 := ⟨_, rfl⟩
        rw [hσ2] at sl ⊢
        match σ2, sl with
        | [x0, x1, x2, x3, x4], _ =>
          have w4 : upd H' Tp (.tup [.str (Txt.split L " ")[i], .bl (fl[i]'(Nat.lt_of_lt_of_le hi hl))]) Dd = some (.lst (acc i)) := by rw [upd_ne nDT]; exact w2
          have w5 : ∀ b o, Hx b = some o → upd H' Tp (.tup [.str (Txt.split L " ")[i], .bl (fl[i]'(Nat.lt_of_lt_of_le hi hl))]) b = some o := fun b o h => by
            rw [upd_ne (fun z => by rw [← z, w3 _ _ h] at nT; cases nT)]; exact w3 _ _ h
          have ac : acc (i + 1) = acc i ++ (if (fl[i]'(Nat.lt_of_lt_of_le hi hl)) = true then [V.str (Txt.split L " ")[i]] else []) := by
            show List.map _ _ = _
            rw [filt_get (List.getElem?_eq_getElem hi) (List.getElem?_eq_getElem (Nat.lt_of_lt_of_le hi hl)), List.map_append]
            cases (fl[i]'(Nat.lt_of_lt_of_le hi hl)) <;> rfl
          refine ⟨rfl, .bl _, rfl, _, rfl, ?_⟩
          cases hb : (fl[i]'(Nat.lt_of_lt_of_le hi hl)) with
          | true =>
            rw [hb] at ac w4 w5
            refine (if_pos rfl).mpr ⟨_, rfl, acc i, w4, ?_, by omega, ?_, fun b o h => ?_⟩
            · show (List.map _ _).length < _
              rw [List.length_map]
              have := Nat.le_trans (List.length_filterMap_le (fun p : Str × Bool => if p.2 = true then some p.1 else none) (((Txt.split L " ").zip fl).take i)) (List.length_take_le i _)
              exact Nat.lt_of_le_of_lt this (Nat.lt_of_lt_of_le hi (Nat.le_trans hl hf2))
            · rw [upd_same, ac]; rfl
            · rw [upd_ne (fun z => by rw [z, nD] at h; cases h)]; exact w5 _ _ h
          | false =>
            rw [hb] at ac w4 w5
            exact (if_neg Bool.false_ne_true).mpr ⟨by omega, by rw [ac]; simpa using w4, w5⟩
      · have hi2 : (Txt.split L " ").length ≤ i := by omega
        refine .inl ⟨⟨_, yL, by rw [List.length_map]; exact hi2⟩, " ", Dd, ((Txt.split L " ").zip fl).filterMap (fun p => if p.2 = true then some p.1 else none), rfl, rfl, .inl (.inl (.inl ?_)), Nat.le_trans (sum_sub filt_sub) hz2, ?_⟩
        · rw [w2]
          show some (HO.lst (List.map _ _)) = _
          rw [List.take_of_length_le (by rw [List.length_zip]; omega)]
        · exact e3 _ fun b o h => w3 _ _ (xH _ _ h)
    · cases h
  · cases h
end
end Mh
set_option Elab.async false
set_option linter.all false
set_option maxRecDepth 100000
set_option maxHeartbeats 4000000
/-! Nf: what an exception of a lambda's body is called. -/
namespace Mh
open PySem PySem.Spec PyProof.Rows HotX L2 L2H LamX
def eL : List Str := ["e"]
/-- what the class named c says of D's instances, by the globals -/
def ClsK (K : PySem.W.Frag) (mg : Str → Option Value) (D : Addr) (c : Str) (b : Bool) : Prop :=
  (∃ C, mg c = some (.ref C) ∧ PySem.W.kitOne K (.ref D) (.ref C) = some b) ∨ (mg c = none ∧ ∃ n, bootBuiltins c = some (.type n) ∧ c ≠ "__name__" ∧ PySem.W.kitOne K (.ref D) (.type n) = some b)
/-- the def that names the exception of class D by the text lbl -/
structure NamD (K : PySem.W.Frag) (mg : Str → Option Value) (x qual : Str) (params : Arguments) (body : List Stmt) (scope : Scope) (f : Addr) (fd : FuncData) (L : Str) (cs : List Str) : Prop where
  fn : FunD K x qual params body scope [] [] f fd
  sc : FnScope NN eL scope
  bd : namesOf scope body = some (L, cs)
  gl : cs.all (Mi.glB scope) = true
  z1 : L.length + 2 ≤ sizeLine
  z2 : ((Txt.split L " ").map (·.length)).sum + (Txt.split L " ").length * (" " : Str).length ≤ 16777216
  m1 : mg "isinstance" = none
  m2 : mg "zip" = none
  bi : L2.Binds K fd eL []
  gx : mg x = some (.ref f)
/-- the exception class D is named lbl -/
structure LblD (K : PySem.W.Frag) (mg : Str → Option Value) (L : Str) (cs : List Str) (D : Addr) (lbl : Str) : Prop where
  ex : ExcC K D
  fl : ∃ fl : List Bool, Paired (ClsK K mg D) cs fl ∧ (Txt.split L " ").length ≤ fl.length ∧ fl.length ≤ sizeLine ∧ nameRes L fl = lbl
theorem paired_glob {X : Cx} {D : Addr} {cs : List Str} {fl : List Bool} (hg : cs.all (Mi.glB X.env.scope) = true) (hp : Paired (ClsK X.K X.mg D) cs fl) : Paired (ClsIs X D) cs fl := by
  induction hp with
  | nil => exact .nil
  | cons h _ ih =>
    simp only [List.all_cons, Bool.and_eq_true] at hg
    exact .cons ⟨(Mi.gl_of hg.1).1, (Mi.gl_of hg.1).2.1, h⟩ (ih hg.2)
theorem names_run {P : Program} {w : World} {K : PySem.W.Frag} {mg : Str → Option Value} {base : Heap} {x qual : Str} {params : Arguments} {body : List Stmt} {scope : Scope} {f : Addr} {fd : FuncData} {L : Str} {cs : List Str} {k : Nat} (N : NamD K mg x qual params body scope f fd L cs) {D : Addr} {lbl : Str} (l : LblD K mg L cs D lbl)
    {A : Around} {outer : List Env} {s : Shared} {H : Hp} {args : Args} {Q : VK} {a : Addr} {oe : Obj} (hr : RoomH (k + 1) A) (hot : Hot1 A (a, oe)) (hpin : PinOk outer H s (a, oe)) (hz : Zc (.ref D) none oe) (e0 : Env0 P w K mg base A outer s H) (hb : BindsTo s fd args (eL.zip [Value.ref a]))
    (h : ∀ H', (∀ b o, H b = some o → H' b = some o) → Q (.str lbl) H') : codeAny (model P w) A (.call (.ref f) args) (CR C8.CX0 outer P w H s Q C8.E0) s := by
  obtain ⟨oc, od, dV, kV, doc, pm, an, cdv, ct, osl, rfl, lk, hcd, _, _⟩ := N.fn.ex
  have S := N.sc
  have KX : K.In s.heap := e0.mod.kin.keeps fun b o e => (e0.bs b o e).1
  have lim : s.heap.NoLimit := e0.mod.nolimit.keeps fun b o e => (e0.bs b o e).1
  have hkind : ∀ y ∈ eL.zip [Value.ref a], scope.names.lookup y.1 = some .local ∨ (scope.names.lookup y.1 = some .cell ∧ ((cellsFrom (s.heap.objs.size + 1) scope.names []).lookup y.1).isSome = true) := fun ⟨n, v⟩ hy => by
    rcases S.par n (List.of_mem_zip hy).1 with q | q
    · exact .inl q
    · exact .inr ⟨q, PySem.W.cellsFrom_some _ _ _ (.inl q)⟩
  refine codeAny_call_function hr.depth (KX _ _ lk) rfl S.co S.gen rfl (PySem.W.codeRec_of KX hcd) (hb _ _ _ _ (wpAny_newFunctionEnv_cells S.kind hkind fun env he s1 x => ?_))
  subst he
  refine ⟨lim.keeps x.toInCall.keep, codeAny_func ?_⟩
  obtain ⟨vs, hv, hn⟩ := hot.2
  obtain ⟨fl, hp, h1, h2, rfl⟩ := l.fl
  have I : Inv (cxH C8.CX0 P w K mg base NN qual scope f cdv A outer s H C8.E0 (a, oe)) [] (L2.start NN [.ref a]) H s1 := inv_startH S hpin e0 rfl (.cons rfl .nil) x
  have hp' : Paired (ClsIs (cxH C8.CX0 P w K mg base NN qual scope f cdv A outer s H C8.E0 (a, oe)) D) cs fl := paired_glob N.gl hp
  have ht := names_ps (X := cxH C8.CX0 P w K mg base NN qual scope f cdv A outer s H C8.E0 (a, oe)) (oe := oe) (a := a) ⟨(a, oe), hot, by show (a, oe) ∈ [(a, oe)]; simp⟩ l.ex (by show (a, oe) ∈ [(a, oe)]; simp) hz ⟨vs, hv⟩ rfl rfl (fun _ => rfl) N.m1 N.m2 N.bd hp' h1 h2 N.z1 N.z2
  refine wpAny_mono (ht.run [] s1 (L2.start NN [.ref a]) H { nx := fun _ H' => Q .non H', rt := Q, bk := fun _ _ => False, ct := fun _ _ => False } I ⟨rfl, rfl, h⟩) (fun fl s' hs => ?_) fun e s' hs => hs
  cases fl with
  | ret u =>
    obtain ⟨v, σ', H', J, rv, q⟩ := hs
    exact ⟨v, H', J.os, J.bare, J.base, J.hok, rv, q⟩
  | next =>
    obtain ⟨σ', H', J, q⟩ := hs
    exact ⟨.non, H', J.os, J.bare, J.base, J.hok, rfl, q⟩
  | brk => obtain ⟨_, _, _, q⟩ := hs; exact False.elim q
  | cont => obtain ⟨_, _, _, q⟩ := hs; exact False.elim q
/-- names(e) in an except suite -/
theorem pe_namesS {X : Cx} {x qual : Str} {params : Arguments} {body : List Stmt} {scope : Scope} {f : Addr} {fd : FuncData} {L : Str} {cs : List Str} {k i : Nat} (N : NamD X.K X.mg x qual params body scope f fd L cs) {D : Addr} {lbl : Str} (l : LblD X.K X.mg L cs D lbl)
    {a : Addr} {oe : Obj} {pn : List (Addr × Obj)} {y : Str} {p1 p2 p3 : Pos} (hz : L2N.Zn (.ref D) none oe) (hv : ∃ vs, oe.data = .fields vs) (hr : Room (k + 1) X.A) (hg : Gl X x) (hi : X.N[i]? = some y) (hy : Vis X.env.scope y) (hd : (x == ("__debug__" : Str)) = false) (hd2 : (y == ("__debug__" : Str)) = false) (hd3 : (y == ("__classdict__" : Str)) = false) :
    PE (X.suite a ((a, oe) :: pn)) (.Call (.Name x p1) [.Name y p2] [] p3) (fun σ H Q => σ[i]? = some (some (.ref a)) ∧ ∀ H', (∀ b o, H b = some o → H' b = some o) → Q (.str lbl) H') := by
  obtain ⟨vs, hv⟩ := hv
  have hot : Hot1 (X.suite a ((a, oe) :: pn)).A (a, oe) := ⟨rfl, vs, hv, hz.2.2 vs hv⟩
  have rm : RoomH (k + 1) (X.suite a ((a, oe) :: pn)).A := ⟨hr.dp, hr.un⟩
  refine ⟨fun pins s σ H Q I ⟨h1, h2⟩ => ?_⟩
  refine wpAny_Call_Name_kw (ld_glob (X := X.suite a ((a, oe) :: pn)) I hg N.gx ?_ hd)
  have ha : PA (X.suite a ((a, oe) :: pn)) [.Name y p2] (tCons (tVar i) tNil) := pa_cons (pe_var hi hy hd2 hd3) pa_nil
  refine PySem.W.callWith_K (h₀ := X.base) I.ok.mod.kin N.fn.kp (thn (ha.run p3 pins s σ H (fun vs H1 => vs = [.ref a] ∧ H1 = H) I ⟨_, h1, rfl, rfl⟩) fun us s1 ⟨vs1, H1, I1, r, e1, e2⟩ => ⟨I1.kIn, ?_⟩) rfl rfl
  subst e1 e2
  obtain rfl : us = [Value.ref a] := by
    cases r with
    | cons rx rr => cases rr; cases rx; rfl
  have P1 := I1.pin (a, oe) (List.mem_append_left _ List.mem_cons_self)
  have hpin : PinOk (X.suite a ((a, oe) :: pn)).stack H1 s1 (a, oe) := ⟨P1.1, P1.2.1, fun hm => (List.mem_cons.mp (I1.stkSub a hm)).elim P1.2.2.1 P1.2.2.2.1, P1.2.2.2.2⟩
  have b := N.bi s1 [.ref a] I1.kIn rfl
  refine wpAny_call (codeAny_mono (names_run (P := X.prog) (w := X.w) (base := X.base) (Q := Q) (outer := X.stack) N l rm hot hpin hz.zc I1.env0 b h2) fun r s' hq => ?_)
  cases r with
  | error e => exact (show False from hq).elim
  | ok fl =>
    cases fl with
    | ret u => exact I1.after hq
    | next => exact False.elim hq
    | brk => exact False.elim hq
    | cont => exact False.elim hq
end Mh
set_option Elab.async false
set_option linter.all false
set_option maxRecDepth 100000
set_option maxHeartbeats 4000000
/-! Ng: error(lambda: e), the def that calls what it gets and names the exception. -/
namespace Mh
open PySem PySem.Spec PyProof.Rows HotX L2 L2H LamX
/-- the context of the lambda's body -/
abbrev lamN (X : Cx) (A : Around) (outer : List Env) (s : Shared) (H : Hp) (E : XK) (scope : Scope) (f c' : Addr) : Cx := (lamCx X A outer s H E scope f c').tr []
  (fun e s' => wpAny (model X.prog X.w) (A.deeper (lamEnv X scope s.heap.objs.size f c')) (leaving (lamEnv X scope s.heap.objs.size f c') e) (fun _ s'' => L2N.CX X.prog X.w outer H s E e s'') (fun e' s'' => L2N.CX X.prog X.w outer H s E e' s'') s')
theorem lamN_takes {X : Cx} {A : Around} {outer : List Env} {s : Shared} {H : Hp} {E : XK} {scope : Scope} {f c' : Addr} : L2N.Takes (lamN X A outer s H E scope f c') (fun cls d _ H => E cls d H) := L2N.takes_of rfl rfl rfl rfl
section
variable {X : Cx} {pins : List (Addr × Obj)} {σ : L2.St} {H : Hp} {s : Shared}
theorem pe_actN {Ng : List Str} {qg : Str} {sg : Scope} {g f c' : Addr} {cdg pm ctv : Value} {params : Arguments} {body : Expr} {scope : Scope} {k i : Nat} {a : Str} {pn : List (Addr × Obj)} {xe : Value → Shared → Prop} {W : WX} {E : XK} {tb : TE} {p1 p2 : Pos}
    (I : Inv X pins σ H s) (L : LamS X.env.scope scope) (hf : s.heap.get? f = some (PySem.W.kla_obj "<lambda>" (X.env.qual ++ "<lambda>") params body scope (cloFrom X.env.cells scope.names []) pm c' ctv)) (hfn : H f = none) (hfr : f ∉ frs X.stack)
    (hbind : bindArgs (PySem.W.kla_fn "<lambda>" (X.env.qual ++ "<lambda>") params body scope (cloFrom X.env.cells scope.names []) pm (.ref c') ctv) ⟨[], []⟩ = pure [])
    (tk : L2N.Takes ((cxOf C8.CX0 X.prog X.w X.K X.mg X.base Ng qg sg g cdg X.A X.stack s H C8.E0).tr pn xe) W) (hr : Room (k + 1) (X.A.deeper (envOfC qg sg s.heap.objs.size g cdg)))
    (hbody : ∀ (A : Around) (outer : List Env) (s : Shared) (H : Hp), Room k (A.deeper (lamEnv X scope s.heap.objs.size f c')) → PE (lamN X A outer s H E scope f c') body tb)
    (hN : Ng[i]? = some a) (hv : Vis sg a) (hd : (a == ("__debug__" : Str)) = false) (hcd : (a == ("__classdict__" : Str)) = false) :
    PE ((cxOf C8.CX0 X.prog X.w X.K X.mg X.base Ng qg sg g cdg X.A X.stack s H C8.E0).tr pn xe) (.Call (.Name a p1) [] [] p2) (fun σZ HZ Q => (∀ cls d H', E cls d H' → W cls d σZ H') ∧ σZ[i]? = some (some (.ref f)) ∧ HZ c' = some (CodeO c' (X.env.qual ++ "<lambda>")) ∧ tb σ HZ Q) := by
  refine ⟨fun pinsZ sZ σZ HZ Q IZ ⟨hW, hs, hc, ht⟩ => ?_⟩
  refine wpAny_Call_Name_kw (thn ((pe_var (pos := p1) (i := i) hN hv hd hcd).run pinsZ sZ σZ HZ (fun v H1 => v = .ref f ∧ H1 = HZ) IZ ⟨.ref f, hs, rfl, rfl⟩) fun u s1 ⟨v, H1, I1, r1, ev, eH⟩ => ?_)
  subst ev
  rw [eH] at I1
  obtain rfl : u = Value.ref f := r1
  have of1 := I1.base.keep f _ hf hfn hfr (fun z => nomatch (show f ∈ ([] : List Addr) from z))
  refine PySem.W.callWith_F0 ⟨_, _, _, _, of1⟩ ?_
  have un : Un (frs X.stack) [] H HZ s.heap s1.heap := I1.base
  obtain ⟨⟨oc, vs, t, hoc, hdc, hvc⟩, _, _⟩ := I1.hok c' _ hc
  have rc : codeAny (model X.prog X.w) (X.A.deeper (envOfC qg sg s.heap.objs.size g cdg)) (.call (.ref f) ⟨[], []⟩) (CR (L2N.CX X.prog X.w) (envOfC qg sg s.heap.objs.size g cdg :: X.stack) X.prog X.w HZ s1 Q E) s1 := by
    refine PySem.W.kla_callFunE hr.depth of1 rfl L.co L.gen rfl ⟨c', oc, vs, t, rfl, hoc, hdc, hvc⟩ ?_
    rw [hbind]
    refine wpAny_pure (wpAny_newFunctionEnv (fun y hy => (L.own y hy).2) (fun y hy => absurd hy (by simp)) (fun h₁ hns hsb => ⟨I1.nolimit.fresh _ hsb, ?_⟩) L.kind)
    show codeAny _ _ (.expr body (lamEnv X scope s1.heap.objs.size f c')) _ _
    have kp : ∀ b o, s1.heap.get? b = some o → h₁.get? b = some o := fun b o e => hsb.extBut b o (Nat.ne_of_lt (Heap.lt_size e)) (Heap.get?_push_of_some _ e)
    have J0 := lam_start2 (E := E) (f := f) (c' := c') (tk := s1.toks + ([] : List (Str × Value)).length) I L I1.env0 hr.hd un hns kp
    have J : Inv (lamN X (X.A.deeper (envOfC qg sg s.heap.objs.size g cdg)) (envOfC qg sg s.heap.objs.size g cdg :: X.stack) s1 HZ E scope f c') [] σ HZ { s1 with heap := h₁, toks := s1.toks + ([] : List (Str × Value)).length } := J0.toTry _
    exact PySem.W.kla_codeExpr (wpAny_mono ((hbody _ _ s1 HZ (hr.deeper _)).run [] _ _ HZ Q J ht) (fun v s' ⟨w', H', J', rv, q⟩ => ⟨w', H', J'.os, J'.bare, J'.base, J'.hok, rv, q⟩) fun e s' hq => hq)
  refine wpAny_call (codeAny_mono rc fun r s' hq => ?_)
  cases r with
  | error e => exact tk e s' (L2N.XE.of_call I1 hW hq)
  | ok fl =>
    cases fl with
    | ret u => exact I1.after hq
    | next => exact False.elim hq
    | brk => exact False.elim hq
    | cont => exact False.elim hq
end
/-- all but the tables stay, and these stay tables -/
def ExtT (H H' : Hp) : Prop := ExtN H H' ∧ (∀ b o, H b = some o → ∃ o', H' b = some o') ∧ ∀ b ps, H' b = some (.tbl ps) → ∃ qs, H b = some (.tbl qs)
theorem ExtT.refl {H : Hp} : ExtT H H := ⟨ExtN.refl H, fun _ o h => ⟨o, h⟩, fun _ ps h => ⟨ps, h⟩⟩
theorem lam_make3 {X : Cx} {pins : List (Addr × Obj)} {σ : L2.St} {H : Hp} {s : Shared} {T : List (Addr × Str)} {c P : Addr} {params : Arguments} {body : Expr} {scope : Scope} {pos : Pos} {E : Value → Shared → Prop} {Q : Value → Shared → Prop} (I : Inv X pins σ H s) (TB : TabB X.base X.mg c P) (hcode : X.env.code = .ref c)
    (hm : (P, X.env.qual ++ "<lambda>") ∈ T) (hu : ∀ p ∈ T, p.1 = P → p.2 = X.env.qual ++ "<lambda>") (hT : Tabs T H) (hdef : defaultsOf params X.env = ([], [])) (hfree : ∀ y ∈ scope.names, y.2 = .free → ∃ c, X.env.cells.lookup y.1 = some c)
    (h : ∀ (f c' : Addr) (pm ctv : Value) (H1 : Hp) (s' : Shared), Inv X pins σ H1 s' → ExtT H H1 → Tabs T H1 →
      s'.heap.get? f = some (PySem.W.kla_obj "<lambda>" (X.env.qual ++ "<lambda>") params body scope (cloFrom X.env.cells scope.names []) pm c' ctv) → H1 f = none → f ∉ frs X.stack → H1 c' = some (CodeO c' (X.env.qual ++ "<lambda>")) → Q (.ref f) s') :
    wpAny (model X.prog X.w) X.A (eval (.Lambda params body scope pos) X.env) Q E s := by
  obtain ⟨ps, hP, ht, ha⟩ := hT _ hm
  have bP : s.heap.BuiltinsAt X.mg P := TB.bm.keeps I.bk
  have hP' := I.hok P _ hP
  have nofr : ∀ f, s.heap.objs.size ≤ f → f ∉ frs X.stack := fun f hf z => by
    rcases List.mem_cons.mp (I.stkSub _ z) with e | e
    · exact Nat.lt_irrefl _ (Nat.lt_of_lt_of_le (by rw [e]; exact I.lt) hf)
    · exact I.nofs hf e
  refine PySem.W.kla_eval hdef ?_
  cases hc : codeAmong pos ps.toList with
  | some cv =>
    obtain ⟨c', rfl, hco⟩ := ha pos cv hc
    exact PySem.W.kla_makeFunctionHit (mg := X.mg) (c := c) (P := P) (ps := ps) (closure_ok hfree) I.ok.glob (I.mod.glob.keeps I.bk) hcode (TB.code.keeps I.bk) hP' ht hc bP fun ctv h' tk hx hsz =>
      h h'.objs.size c' ((X.mg "__name__").getD .none) ctv H _ (I.kept fun b o e => Heap.get?_push_of_some _ (hx b o e)) ExtT.refl hT (Heap.get?_push_size _ rfl) (I.hok.fresh hsz) (nofr _ hsz) hco
  | none =>
    refine PySem.W.kla_makeFunction (mg := X.mg) (c := c) (P := P) (ps := ps) (closure_ok hfree) I.ok.glob (I.mod.glob.keeps I.bk) hcode (TB.code.keeps I.bk) hP' ht hc TB.gP bP fun c' ctv h' tk hx hge hlt hrec htb => ?_
    obtain ⟨c2, oc, vs, t, e2, hoc, hd, hv⟩ := hrec
    cases e2
    have hsz : s.heap.objs.size ≤ h'.objs.size := Nat.le_trans hge (Nat.le_of_lt hlt)
    have nC : H c' = none := I.hok.fresh hge
    have nPc : P ≠ c' := ne_of_none hP nC
    have I1 := inv_table (t' := tk) (more := #[rawInt pos.line, rawInt pos.col, .ref c']) (h' := h'.push (PySem.W.kla_obj "<lambda>" (X.env.qual ++ "<lambda>") params body scope (cloFrom X.env.cells scope.names []) ((X.mg "__name__").getD .none) c' ctv)) I hP
      (fun b o hb e => Heap.get?_push_of_some _ (hx b o hb e)) (Heap.get?_push_of_some _ htb) hge ⟨oc, vs, t, Heap.get?_push_of_some _ hoc, hd, hv⟩
    obtain ⟨qs, hqs⟩ : ∃ qs, ps ++ #[rawInt pos.line, rawInt pos.col, .ref c'] = qs := ⟨_, rfl⟩
    have eL : qs.toList = ps.toList ++ [rawInt pos.line, rawInt pos.col, .ref c'] := by rw [← hqs]; simp
    rw [hqs] at I1
    have hE : ExtN H (upd (upd H P (.tbl qs)) c' (CodeO c' (X.env.qual ++ "<lambda>"))) := fun b o e n => by
      rw [upd_ne (ne_of_none e nC), upd_ne (fun z => n ps (Option.some.inj (e.symm.trans (by rw [z]; exact hP))))]
      exact e
    have hE2 : ExtT H (upd (upd H P (.tbl qs)) c' (CodeO c' (X.env.qual ++ "<lambda>"))) := by
      refine ⟨hE, fun b o e => ?_, fun b us e => ?_⟩
      · rw [upd_ne (ne_of_none e nC)]
        by_cases hb : b = P
        · rw [hb, upd_same]; exact ⟨_, rfl⟩
        · rw [upd_ne hb]; exact ⟨o, e⟩
      · by_cases hb : b = c'
        · rw [hb, upd_same] at e
          exact absurd (Option.some.inj e) (codeO_ne us)
        · rw [upd_ne hb] at e
          by_cases hb2 : b = P
          · rw [hb2]; exact ⟨_, hP⟩
          · rw [upd_ne hb2] at e; exact ⟨_, e⟩
    refine h h'.objs.size c' ((X.mg "__name__").getD .none) ctv _ _ I1 hE2 (fun p hp => ?_) (Heap.get?_push_size _ rfl) ?_ (nofr _ hsz) upd_same
    · by_cases hb : p.1 = P
      · rw [hu p hp hb, hb]
        refine ⟨_, by rw [upd_ne nPc, upd_same], by rw [eL]; exact PySem.TriplesOk_snoc _ _ _ _ ht, fun p' cv hcv => ?_⟩
        rw [eL] at hcv
        rcases among_app _ ht hcv with z | z
        · obtain ⟨c0, e1, e2⟩ := ha p' cv z
          exact ⟨c0, e1, hE _ _ e2 codeO_ne⟩
        · exact ⟨c', z, upd_same⟩
      · obtain ⟨ps', a1, a2, a3⟩ := hT p hp
        refine ⟨ps', by rw [upd_ne (ne_of_none a1 nC), upd_ne hb]; exact a1, a2, fun p' cv hcv => ?_⟩
        obtain ⟨c0, e1, e2⟩ := a3 p' cv hcv
        exact ⟨c0, e1, hE _ _ e2 codeO_ne⟩
    · rw [upd_ne (Nat.ne_of_gt hlt), upd_ne (Nat.ne_of_gt (Nat.lt_of_lt_of_le (Heap.lt_size hP') hsz))]
      exact I.hok.fresh hsz
/-- the names that such a def uses -/
def NE : List Str := ["call", "e"]
def cL : List Str := ["call"]
/-- try: call() / except CardError as e: return names(e) / return '' -/
def errOf (sc : Scope) : List Stmt → Option (Str × Str)
  | [.Try [.Expr (.Call (.Name a _) [] [] _) _] [.ExceptHandler (some (.Name c _)) (some n) [.Return (some (.Call (.Name x _) [.Name y _] [] _)) _] _] [] [] _, .Return (some (.Constant (.str z) _ _)) _] =>
    if (a = "call" ∧ n = "e" ∧ y = "e" ∧ z = "") ∧ Mi.locB sc "call" = true ∧ (sc.names.lookup ("e" : Str) == some NameKind.local) = true ∧ Mi.glB sc c = true ∧ Mi.glB sc x = true then some (c, x) else none
  | _ => none
/-- the exception class D is a card's, and is named lbl -/
def LblE (K : PySem.W.Frag) (mg : Str → Option Value) (L : Str) (cs : List Str) (CE D : Addr) (lbl : Str) : Prop := PySem.W.exmOne K (.ref D) (.ref CE) = some true ∧ LblD K mg L cs D lbl
structure ErrD (K : PySem.W.Frag) (mg : Str → Option Value) (x : Str) (params : Arguments) (body : List Stmt) (scope : Scope) (g : Addr) (fd : FuncData) (L : Str) (cs : List Str) (CE : Addr) : Prop where
  fn : FunD K x x params body scope [] [] g fd
  sc : FnScope NE cL scope
  bd : ∃ c nx, errOf scope body = some (c, nx) ∧ mg c = some (.ref CE) ∧ ∃ qual pa bo sn fn fdn, NamD K mg nx qual pa bo sn fn fdn L cs
  bi : L2.Binds K fd cL []
  gx : mg x = some (.ref g)
def TErr (K : PySem.W.Frag) (mg : Str → Option Value) (L : Str) (cs : List Str) (CE : Addr) : (XK → Hp → VK → Prop) → Hp → VK → Prop := fun tl H Q =>
  tl (fun cls d H' => ∃ D lbl, cls = .ref D ∧ d = none ∧ LblE K mg L cs CE D lbl ∧ ∀ H'', (∀ b o, H' b = some o → H'' b = some o) → Q (.str lbl) H'') H (fun _ H' => Q (.str "") H')
theorem err_ps {X : Cx} {k : Nat} {body : List Stmt} {sg : Scope} {g : Addr} {cdg : Value} {x : Str} {L : Str} {cs : List Str} {CE : Addr} {c nx : Str} (h : errOf sg body = some (c, nx)) (hm : X.mg c = some (.ref CE)) {qual : Str} {pa : Arguments} {bo : List Stmt} {sn : Scope} {fn : Addr} {fdn : FuncData} (N : NamD X.K X.mg nx qual pa bo sn fn fdn L cs)
    {f c' : Addr} {s : Shared} {H : Hp} {Q : VK} {tl : XK → Hp → VK → Prop} {q : Str} (hr : Room (k + 1) (X.A.deeper (envOfC x sg s.heap.objs.size g cdg)))
    (act : ∀ (W : WX) (pn : List (Addr × Obj)) (xe : Value → Shared → Prop) (E : XK) (p1 p2 : Pos), L2N.Takes ((cxOf C8.CX0 X.prog X.w X.K X.mg X.base NE x sg g cdg X.A X.stack s H C8.E0).tr pn xe) W →
      PE ((cxOf C8.CX0 X.prog X.w X.K X.mg X.base NE x sg g cdg X.A X.stack s H C8.E0).tr pn xe) (.Call (.Name "call" p1) [] [] p2) (fun σZ HZ Q => (∀ cls d H', E cls d H' → W cls d σZ H') ∧ σZ[0]? = some (some (.ref f)) ∧ HZ c' = some (CodeO c' q) ∧ tl E HZ Q))
    (hc : H c' = some (CodeO c' q)) (hT : TErr X.K X.mg L cs CE tl H Q) :
    ∃ t, PSs (cxOf C8.CX0 X.prog X.w X.K X.mg X.base NE x sg g cdg X.A X.stack s H C8.E0) body t ∧ t { nx := fun _ H' => Q .non H', rt := Q, bk := fun _ _ => False, ct := fun _ _ => False } (L2.start NE [.ref f]) H := by
  unfold errOf at h
  split at h
  · rename_i a _ _ _ c _ n xm y _ _ _ _ z _ _ _
    split at h
    · rename_i hq
      obtain ⟨⟨rfl, rfl, rfl, rfl⟩, l1, l2, l3, l4⟩ := hq
      cases h
      have he : sg.names.lookup ("e" : Str) = some .local := eq_of_beq l2
      have gl : ∀ {y : Str}, Mi.glB sg y = true → Gl (cxOf C8.CX0 X.prog X.w X.K X.mg X.base NE x sg g cdg X.A X.stack s H C8.E0) y := fun {y} h => (Mi.gl_of h).1
      refine ⟨_, pss_cons (L2N.ps_try_as (X := cxOf C8.CX0 X.prog X.w X.K X.mg X.base NE x sg g cdg X.A X.stack s H C8.E0) (c := .ref CE) (i := 1) (Wout := fun _ _ _ _ => False)
        (tb := fun W D σ H => ∃ Ech : XK, (∀ cls d H', Ech cls d H' → W cls d σ H') ∧ σ[0]? = some (some (.ref f)) ∧ H c' = some (CodeO c' q) ∧ tl Ech H (fun _ H' => D.nx σ H'))
        (ts := fun a cls d => fun D σ H => ∃ Dc lbl, cls = .ref Dc ∧ d = none ∧ LblD X.K X.mg L cs Dc lbl ∧ σ[1]? = some (some (.ref a)) ∧ ∀ H', (∀ b o, H b = some o → H' b = some o) → D.rt (.str lbl) H')
        rfl rfl (show NE.Nodup by decide +kernel) rfl he ⟨gl l3, (Mi.gl_of l3).2.1, .inl hm⟩ (fun u s' x => ?_) (fun W pn xe tk po => ?_) (fun a oe cls d pn hz hv => ?_)) (pss_one (ps_ret pe_str)), ?_⟩
      · obtain ⟨_, _, _, _, _, _, _, _, _, _, _, _, _, _, _, _, z⟩ := x
        exact z.elim
      · refine ⟨fun pins s' σ H' D I ⟨Ech, hW, h1, h2, h3⟩ => ?_⟩
        exact (pss_one (ps_expr (act W pn xe Ech _ _ tk) rfl)).run pins s' σ H' D I ⟨hW, h1, h2, h3⟩
      · refine ⟨fun pins s' σ H' D I ⟨Dc, lbl, e1, e2, hl, h1, h2⟩ => ?_⟩
        subst e1 e2
        exact (pss_one (ps_ret (pe_namesS (X := cxOf C8.CX0 X.prog X.w X.K X.mg X.base NE x sg g cdg X.A X.stack s H C8.E0) N hl hz hv hr (gl l4) (i := 1) rfl (.inl he) (Mi.gl_of l4).2.1 (by decide +kernel) (by decide +kernel)))).run pins s' σ H' D I ⟨h1, h2⟩
      · refine ⟨fun cls d H' => ∃ D lbl, cls = .ref D ∧ d = none ∧ LblE X.K X.mg L cs CE D lbl ∧ ∀ H'', (∀ b o, H' b = some o → H'' b = some o) → Q (.str lbl) H'', fun cls d H' ⟨Dc, lbl, e1, e2, ⟨e3, e4⟩, e5⟩ => ?_, rfl, hc, hT⟩
        subst e1 e2
        exact ⟨true, e3, fun _ a ha => ⟨Dc, lbl, rfl, rfl, e4, rfl, e5⟩, fun z => by cases z⟩
    · cases h
  · cases h
theorem errOf_vis {sc : Scope} {body : List Stmt} {r : Str × Str} (h : errOf sc body = some r) : Vis sc "call" := by
  unfold errOf at h
  split at h
  · split at h
    · rename_i hq
      exact (Mi.loc_of hq.2.1).elim (fun k => .inl k) (fun k => .inr (.inl k))
    · cases h
  · cases h
/-- error(lambda: e) -/
theorem pe_err {X : Cx} {T : List (Addr × Str)} {x : Str} {g c P : Addr} {k : Nat} {pg : Arguments} {bg : List Stmt} {sg : Scope} {fd : FuncData} {L : Str} {cs : List Str} {CE : Addr} {params : Arguments} {body : Expr} {scope : Scope} {t : XK → TE} {p lpos pos : Pos} (ED : ErrD X.K X.mg x pg bg sg g fd L cs CE) (hg : Gl X x)
    (TB : TabB X.base X.mg c P) (hcode : X.env.code = .ref c) (hmT : (P, X.env.qual ++ "<lambda>") ∈ T) (hu : ∀ p ∈ T, p.1 = P → p.2 = X.env.qual ++ "<lambda>") (hr : Room (k + 2) X.A) (Ls : LamS X.env.scope scope) (hdef : defaultsOf params X.env = ([], []))
    (hbind : ∀ (q : Str) (cl : List (Str × Addr)) (pm cv ctv : Value), bindArgs (PySem.W.kla_fn "<lambda>" q params body scope cl pm cv ctv) ⟨[], []⟩ = pure [])
    (hbody : ∀ (A : Around) (outer : List Env) (s : Shared) (H : Hp) (E : XK) (f c' : Addr), Room k (A.deeper (lamEnv X scope s.heap.objs.size f c')) → PE (lamN X A outer s H E scope f c') body (t E)) (hdb : (x == ("__debug__" : Str)) = false) :
    PE X (.Call (.Name x p) [.Lambda params body scope lpos] [] pos) (fun σ H Q => Tabs T H ∧ ∀ H1, ExtT H H1 → Tabs T H1 → TErr X.K X.mg L cs CE (fun E H' Q' => t E σ H' Q') H1 Q) := by
  obtain ⟨oc, od, dV, kV, doc, pm, an, cdv, ct, osl, rfl, lk, hcg, _, _⟩ := ED.fn.ex
  obtain ⟨ce, nx, hbd, hce, qual, pa, bo, sn, fn, fdn, N⟩ := ED.bd
  have Sg := ED.sc
  refine ⟨fun pins s σ H Q I ⟨hT, h⟩ => ?_⟩
  refine wpAny_Call_Name_kw (ld_glob I hg ED.gx ?_ hdb)
  refine PySem.W.callWith_K (h₀ := X.base) I.ok.mod.kin ED.fn.kp ?_ (by rfl) (by rfl)
  show wpAny _ _ (spliced ((false, eval (.Lambda params body scope lpos) X.env) :: backTo pos (starEach [] X.env))) _ _ s
  refine Calls.spliced_cons (lam_make3 I TB hcode hmT hu hT hdef (Ls.has I.ok) fun f c' pm' ctv H1 s' I1 eN T1 hf hfn hfr hco => Calls.spliced_nil ⟨I1.kIn, ?_⟩)
  have rc : codeAny (model X.prog X.w) X.A (.call (.ref g) ⟨[.ref f], []⟩) (CR C8.CX0 X.stack X.prog X.w H1 s' Q C8.E0) s' := by
    refine run_ofS (N := NE) (ps := cL) (us := [.ref f]) (vs := [.ref f]) lk hcg Sg hr I1.env0 (ED.bi s' [.ref f] I1.kIn rfl) (.cons rfl .nil) rfl fun hr' => ?_
    refine err_ps (k := k) hbd hce N hr' (fun W pn xe E p1 p2 tk => ?_) hco (h H1 eN T1)
    exact pe_actN (i := 0) I1 Ls hf hfn hfr (hbind _ _ _ _ _) tk hr' (fun A outer s H hr2 => hbody A outer s H E f c' hr2) rfl (errOf_vis hbd) (by decide +kernel) (by decide +kernel)
  refine wpAny_call (codeAny_mono rc fun r s2 hq => ?_)
  cases r with
  | error e => exact (show False from hq).elim
  | ok fl =>
    cases fl with
    | ret u => exact I1.after hq
    | next => exact False.elim hq
    | brk => exact False.elim hq
    | cont => exact False.elim hq
end Mh
set_option Elab.async false
set_option linter.all false
set_option maxRecDepth 100000
set_option maxHeartbeats 4000000
/-! Mka: error(lambda: e) in the small language. -/
namespace Mi
open PySem PySem.Spec PyProof.Rows L2 RZ
section
variable {K : PySem.W.Frag} {mg : Str → Option Value} {T : List (Addr × Str)} {ι Z : List Addr} {H H' : Hp} {μ : List Mo}
theorem ext_up (h : ∀ b o, H b = some o → H' b = some o) : Ext ι [] H ι H' := ⟨⟨[], by simp, by simp⟩, fun a o q _ _ _ => h a o q, fun a o q => ⟨o, h a o q⟩, fun a xs q => h a _ q⟩
theorem RG.up (g : RG K mg T ι Z H μ) (h : ∀ b o, H b = some o → H' b = some o) : RG K mg T ι Z H' μ := by
  refine ⟨g.nd, g.len, fun n m hm => ?_, fun z hz => ?_, LamX.Tabs.ext g.tabs h⟩
  · obtain ⟨a, h1, h2⟩ := g.mem n m hm
    obtain ⟨o, q, _⟩ := h2.at
    exact ⟨a, h1, h2.ext (ext_up h) (by simp) (fun z q => .inl q) ((h _ _ q).trans q.symm)⟩
  · obtain ⟨⟨vs, q⟩, n⟩ := g.zl z hz
    exact ⟨⟨vs, h _ _ q⟩, n⟩
theorem ext_T (h : Mh.ExtT H H') : Ext ι [] H ι H' := ⟨⟨[], by simp, by simp⟩, fun a o q _ _ n => h.1 a o q n, fun a o q => h.2.1 a o q, fun a xs q => h.1 a _ q (fun _ z => by cases z)⟩
theorem RG.upT (g : RG K mg T ι Z H μ) (h : Mh.ExtT H H') (t : LamX.Tabs T H') : RG K mg T ι Z H' μ := by
  refine ⟨g.nd, g.len, fun n m hm => ?_, fun z hz => ?_, t⟩
  · obtain ⟨a, h1, h2⟩ := g.mem n m hm
    obtain ⟨o, q, _, n, _⟩ := h2.at
    exact ⟨a, h1, h2.ext (ext_T h) (by simp) (fun z q => .inl q) ((h.1 _ _ q n).trans q.symm)⟩
  · obtain ⟨⟨vs, q⟩, n⟩ := g.zl z hz
    exact ⟨⟨vs, h.1 _ _ q (fun _ z => by cases z)⟩, n⟩
end
theorem m_err {X : Cx} {T : List (Addr × Str)} {W : WX} {x : Str} {g c P : Addr} {k : Nat} {pg : Arguments} {bg : List Stmt} {sg : Scope} {fd : FuncData} {L : Str} {cs : List Str} {CE : Addr} {params : Arguments} {body : Expr} {scope : Scope} {ce : E} {nms : List (Str × Str)} {p lpos pos : Pos} (ED : Mh.ErrD X.K X.mg x pg bg sg g fd L cs CE) (hg : Gl X x)
    (TB : LamX.TabB X.base X.mg c P) (hcode : X.env.code = .ref c) (hmT : (P, X.env.qual ++ "<lambda>") ∈ T) (hu : ∀ p ∈ T, p.1 = P → p.2 = X.env.qual ++ "<lambda>") (hr : Room (k + 2) X.A) (Ls : LamX.LamS X.env.scope scope) (hdef : defaultsOf params X.env = ([], []))
    (hbind : ∀ (q : Str) (cl : List (Str × Addr)) (pm cv ctv : Value), bindArgs (PySem.W.kla_fn "<lambda>" q params body scope cl pm cv ctv) ⟨[], []⟩ = pure [])
    (hn : ∀ c lbl, nms.lookup c = some lbl → ∀ C, X.mg c = some (.ref C) → Mh.LblE X.K X.mg L cs CE C lbl)
    (hbody : ∀ (A : Around) (outer : List Env) (s : Shared) (H : Hp) (E : XK) (f c' : Addr), Room k (A.deeper (LamX.lamEnv X scope s.heap.objs.size f c')) → PE (Mh.lamN X A outer s H E scope f c') body (tE X.K X.mg T (fun cls d _ H => E cls d H) ce)) (hdb : (x == ("__debug__" : Str)) = false) :
    PE X (.Call (.Name x p) [.Lambda params body scope lpos] [] pos) (tE X.K X.mg T W (.err nms ce)) :=
  PE.imp (Mh.pe_err (t := fun E => tE X.K X.mg T (fun cls d _ H => E cls d H) ce) ED hg TB hcode hmT hu hr Ls hdef hbind hbody hdb) fun σ H Q h => by
    obtain ⟨ι, Z, Zf, μ, δ, g, sr, hp⟩ := h
    refine ⟨g.tabs, fun H1 eT T1 => ?_⟩
    have e1 : Ext ι [] H ι H1 := ext_T eT
    refine ⟨ι, Z, Zf, μ, δ, g.upT eT T1, sr.ext g e1, ?_⟩
    simp only [ev] at hp
    match hq : ev ce δ μ, hp with
    | some (.ok a, μ1), hp => exact fun ι' b H' e' g' r' => hp ι' (.str "") H' (e1.trans0 e') g' rfl
    | some (.error (c, none), μ1), hp =>
      intro ι' H' cv dx e' g' xr
      obtain ⟨⟨C, hC, rfl⟩, rfl⟩ := xr
      replace hp : post X.K X.mg T (Rp X.K X.mg) ι Z H (optR ((nms.lookup c).map D.str) μ1) Q (WS W σ) := hp
      cases hl : nms.lookup c with
      | none => rw [hl] at hp; exact hp.elim
      | some lbl =>
        rw [hl] at hp
        exact ⟨C, lbl, rfl, rfl, hn c lbl hl C hC, fun H'' u => hp ι' (.str lbl) H'' ((e1.trans0 e').trans0 (ext_up u)) (g'.up u) rfl⟩
    | some (.error (c, some d), μ1), hp => exact hp.elim
    | none, hp => exact hp.elim
/-! ### methods of texts -/
section
variable {X : Cx} {T : List (Addr × Str)} {W : WX} {a b : Expr} {ca cb : E} {pos apos : Pos}
theorem m_meth0 {f : Bi} {id : String} {name : Str} (slot : Slot "str" name id) (ty : typeOf (.builtin id) = pure (.type "method_descriptor")) (rule : MtR X id (rM X.K X.mg T f)) (ho : PE X a (tE X.K X.mg T W ca)) (hb : attributeBase a name X.env (eval a X.env) = eval a X.env) (hl : (apos.endLine == pos.line) = true) :
    PE X (.Call (.Attribute a name apos) [] [] pos) (tE X.K X.mg T W (.meth f ca .nil)) :=
  PE.imp (pe_m0 slot ty rule ho hb hl) fun σ H Q h => by
    obtain ⟨ι, Z, Zf, μ, δ, g, sr, hp⟩ := h
    refine ⟨ι, Z, Zf, μ, δ, g, sr, post.bind hp fun x μ1 ι1 v H1 e1 g1 r1 hp1 => ?_⟩
    cases x with
    | str z =>
      have r1' : v = V.str z := r1
      subst r1'
      simp only [evs, bindR, retR] at hp1
      unfold optR at hp1
      cases ho : f.do μ1 [.str z] with
      | none => rw [ho] at hp1; exact hp1.elim
      | some r => rw [ho] at hp1; exact ⟨⟨z, rfl⟩, ι1, Z, μ1, [.str z], r, g1, ⟨_, _, rfl, rfl, rfl⟩, ho, hp1⟩
    | _ => exact hp1.elim
theorem m_meth1 {f : Bi} {id : String} {name : Str} (slot : Slot "str" name id) (ty : typeOf (.builtin id) = pure (.type "method_descriptor")) (rule : MtR X id (rM X.K X.mg T f)) (ho : PE X a (tE X.K X.mg T W ca)) (he : PE X b (tE X.K X.mg T W cb)) (hs : starEach [b] X.env = [(false, eval b X.env)]) (hb : attributeBase a name X.env (eval a X.env) = eval a X.env) (hl : (apos.endLine == pos.line) = true) :
    PE X (.Call (.Attribute a name apos) [b] [] pos) (tE X.K X.mg T W (.meth f ca (.cons cb .nil))) :=
  PE.imp (pe_m1 slot ty rule ho he hs hb hl) fun σ H Q h => by
    obtain ⟨ι, Z, Zf, μ, δ, g, sr, hp⟩ := h
    refine ⟨ι, Z, Zf, μ, δ, g, sr, post.bind hp fun x μ1 ι1 v H1 e1 g1 r1 hp1 => ?_⟩
    cases x with
    | str z =>
      have r1' : v = V.str z := r1
      subst r1'
      refine ⟨⟨z, rfl⟩, ι1, Z, Zf, μ1, δ, g1, sr.ext g e1, ?_⟩
      have hp2 : post X.K X.mg T (Rp X.K X.mg) ι1 Z H1 (bindR (ev cb δ μ1) fun y μ => optR (f.do μ [.str z, y]) μ) Q (WS W σ) := by
        simp only [evs] at hp1
        revert hp1
        cases ev cb δ μ1 with
        | none => exact fun h => h
        | some r => obtain ⟨r, μ2⟩ := r; cases r <;> exact fun h => h
      refine post.bind hp2 fun y μ2 ι2 w H2 e2 g2 r2 hp3 => ?_
      unfold optR at hp3
      cases ho : f.do μ2 [.str z, y] with
      | none => rw [ho] at hp3; exact hp3.elim
      | some r => rw [ho] at hp3; exact ⟨ι2, Z, μ2, [.str z, y], r, g2, ⟨_, _, rfl, rfl, _, _, rfl, r2, rfl⟩, ho, hp3⟩
    | _ => exact hp1.elim
end
end Mi
set_option Elab.async false
set_option linter.all false
set_option maxRecDepth 100000
set_option maxHeartbeats 4000000
/-! Mk: the small language's terms are read off the text; what is read off is right. -/
namespace Mi
open PySem PySem.Spec PyProof.Rows L2 RZ
/-- what the reader knows: the own defs with their numbers of parameters, the constants, the exceptions, and of one def: the slots of lists that one name alone holds, the places where changeable lists are made, the rows ahead of which such a list is given out -/
structure Cf where
  fns : List (Str × Nat × Sem) := []
  cons : List (Str × D) := []
  excs : List Str := []
  lin : List Nat := []
  ml : List (Nat × Nat) := []
  still : List (Nat × List Nat) := []
  err : Option (Str × List (Str × Str)) := none
  lam : Bool := false
  tru : List (Nat × Nat) := []
/-- where no lambda is made -/
def Cf.nolam (cf : Cf) : Cf := { cf with lam := false }
def ixOf (x : Str) : List Str → Option Nat
  | [] => none
  | y :: ys => if decide (y = x) = true then some 0 else (ixOf x ys).map (· + 1)
def slotOf (N : List Str) (sc : Scope) (x : Str) : Option Nat := if (visB sc x && !(x == ("__debug__" : Str)) && !(x == ("__classdict__" : Str))) = true then ixOf x N else none
def opOf : Operator → Option Op
  | .Add => some .add
  | .Sub => some .sub
  | .Mult => some .mul
  | .FloorDiv => some .fdiv
  | .Mod => some .mod
  | .Pow => some .pow
  | _ => none
def cmOf : CmpOp → Op
  | .Eq => .eq
  | .NotEq => .ne
  | .Lt => .cm .lt
  | .LtE => .cm .le
  | .Gt => .cm .gt
  | .GtE => .cm .ge
  | .Is => .is_
  | .IsNot => .isn
  | .In => .in_
  | .NotIn => .nin
def tyOf (x : Str) : Option String :=
  if decide (x = "int") = true then some "int" else if decide (x = "bool") = true then some "bool" else if decide (x = "str") = true then some "str" else if decide (x = "tuple") = true then some "tuple" else if decide (x = "list") = true then some "list" else none
/-- the built-ins that are called: (which, whether it is a class) -/
def biOf (x : Str) : Option Bi :=
  if decide (x = "len") = true then some .len else if decide (x = "abs") = true then some .abs else if decide (x = "int") = true then some .int else if decide (x = "str") = true then some .str else if decide (x = "min") = true then some .min
  else if decide (x = "max") = true then some .max else if decide (x = "sum") = true then some .sum else if decide (x = "list") = true then some .list else if decide (x = "tuple") = true then some .tuple else if decide (x = "isinstance") = true then some .isi
  else if decide (x = "bool") = true then some .bool else none
def biNames : List Str := ["len", "abs", "int", "str", "min", "max", "sum", "list", "tuple", "isinstance", "bool", "range", "enumerate", "zip"]
def isSl : Expr → Bool
  | .Slice .. => true
  | _ => false
def isIf : Expr → Bool
  | .IfExp .. => true
  | _ => false
def cEsF (f : Expr → Option E) : List Expr → Option Es
  | [] => some .nil
  | e :: es => (f e).bind fun c => (cEsF f es).map fun cs => .cons c cs
def cO (f : Expr → Option E) : Option Expr → Option Eo
  | none => some .no
  | some l => (f l).map .yes
/-- the test of a comprehension -/
def cIf (f : Expr → Option E) : List Expr → Option E
  | [] => some (.con (.bl true))
  | [c] => if isIf c = true then none else f c
  | _ => none
def cBo (f : Expr → Option E) (op : BoolOp) : List Expr → Option E
  | [] => none
  | [a] => f a
  | a :: b :: r => (f a).bind fun ca => (cBo f op (b :: r)).map fun cr => (match op with
    | .And => .and_ ca cr
    | .Or => .or_ ca cr)
def cTg (N : List Str) (sc : Scope) : Expr → Option Tg
  | .Name x _ => if locB sc x = true then (ixOf x N).map .name else none
  | .Tuple [.Name x _, .Name y _] _ _ => if (locB sc x && locB sc y) = true then (ixOf x N).bind fun i => (ixOf y N).map fun j => .pair (.name i) (.name j) else none
  | .Tuple [.Name x _, .Tuple [.Name y _, .Name z _] _ _] _ _ => if (locB sc x && locB sc y && locB sc z) = true then (ixOf x N).bind fun i => (ixOf y N).bind fun j => (ixOf z N).map fun k => .pair (.name i) (.pair (.name j) (.name k)) else none
  | .Tuple [.Name x _, .Name y _, .Name z _] _ _ => if (locB sc x && locB sc y && locB sc z) = true then (ixOf x N).bind fun i => (ixOf y N).bind fun j => (ixOf z N).map fun k => .trip (.name i) (.name j) (.name k) else none
  | _ => none
def isTup : Expr → Bool
  | .Tuple .. => true
  | _ => false
def isSet : Expr → Bool
  | .Set .. => true
  | _ => false
/-- what is walked -/
def cIt (f : Expr → Option E) (sc : Scope) (cf : Cf) (tg : Expr) (e : Expr) : Option It :=
  if isSet e = true then none else match e with
  | .Call (.Name g _) [a] [] _ => if glB sc g = true ∧ cf.fns.lookup g = none then (if decide (g = "range") = true then (f a).map .rng else if decide (g = "enumerate") = true then (if isTup tg = true then (f a).map .enum else none) else (f e).map .seq) else (f e).map .seq
  | .Call (.Name g _) [a, b] [] _ => if glB sc g = true ∧ cf.fns.lookup g = none then (if decide (g = "range") = true then (f a).bind fun ca => (f b).map fun cb => .rng2 ca cb else if decide (g = "zip") = true then (if isTup tg = true then (f a).bind fun ca => (f b).map fun cb => .zip ca cb else none) else (f e).map .seq) else (f e).map .seq
  | e => (f e).map .seq
/-- the names of a comprehension's own, with their slots -/
def ownOf (N : List Str) (sc : Scope) : List (Str × Nat) := sc.names.filterMap fun p => match p.2 with
  | .local => (ixOf p.1 N).map fun i => (p.1, i)
  | .cell => (ixOf p.1 N).map fun i => (p.1, i)
  | _ => none
/-- a lambda without parameters -/
def lamOf : Expr → Option (Scope × Expr)
  | .Lambda ⟨[], [], none, [], [], none, []⟩ b s _ => some (s, b)
  | _ => none
/-- list(range(b)) -/
def rngOf (cf : Cf) (sc : Scope) (f : Str) : Expr → List Expr → Option Expr
  | .Call (.Name g _) [b] [] _, [] => if f = "list" ∧ g = "range" ∧ glB sc g = true ∧ cf.fns.lookup g = none then some b else none
  | _, _ => none
/-- the methods of texts: without an argument, with one -/
def me0 (m : Str) : Option Bi := if m = "upper" then some .upper else none
def me1 (m : Str) : Option Bi := if m = "split" then some .split else if m = "join" then some .join else none
def callB : Expr → Bool
  | .Call (.Name _ _) [] [] _ => true
  | _ => false
/-- [x] * k as a changeable list -/
def mrepOf (cf : Cf) : Expr → Operator → Option Expr
  | .List [x] p, .Mult => if (p.line, p.col) ∈ cf.ml then some x else none
  | _, _ => none
/-- written text keys -/
def keysOf : List (Option Expr) → Option (List Str)
  | [] => some []
  | some (.Constant (.str k) _ _) :: r => (keysOf r).map (k :: ·)
  | _ => none
def cE (cf : Cf) (N : List Str) : Nat → Scope → Expr → Option E
  | 0, _, _ => none
  | n + 1, sc, e => match e with
    | .Name x _ => (match slotOf N sc x with
      | some i => some (.var i)
      | none => if glB sc x = true then (match cf.cons.lookup x with
        | some d => some (.con d)
        | none => (tyOf x).map fun t => .con (.ty t)) else none)
    | .Constant (.int i) _ _ => some (.con (.int i))
    | .Constant (.bool b) _ _ => some (.con (.bl b))
    | .Constant (.str x) _ _ => some (.con (.str x))
    | .Constant .none _ _ => some (.con .non)
    | .BinOp a op b _ => (match mrepOf cf a op with
      | some x => (cE cf N n sc x).bind fun cx => (cE cf N n sc b).map fun cb => .mrep cx cb
      | none => (opOf op).bind fun o => (cE cf N n sc a).bind fun ca => (cE cf N n sc b).map fun cb => .op o ca cb)
    | .Dict keys values _ => if keys.length = values.length ∧ keys.length ≤ 15 ∧ keys ≠ [] then (keysOf keys).bind fun ks => (cEsF (cE cf N n sc) values).map fun cs => .dct ks cs else none
    | .UnaryOp .USub a _ => (cE cf N n sc a).map .neg
    | .UnaryOp .Not (.Name x px) pn => if (pn.line, pn.col) ∈ cf.tru then (cE cf N n sc (.Name x px)).map .nott else (cE cf N n sc (.Name x px)).map .not_
    | .UnaryOp .Not a _ => if isIf a = true then none else (cE cf N n sc a).map .not_
    | .BoolOp op vs _ => if vs.any isIf = true then none else cBo (cE cf N n sc) op vs
    | .Compare a [op] [b] _ => if behindInMarks op b = true then none else (cE cf N n sc a).bind fun ca => (cE cf N n sc b).map fun cb => .op (cmOf op) ca cb
    | .Compare a [op, op'] [b, c] _ => if lastMarks [op, op'] [b, c] = true then none else (cE cf N n sc a).bind fun ca => (cE cf N n sc b).bind fun cb => (cE cf N n sc c).map fun cc => .chain (cmOf op) (cmOf op') ca cb cc
    | .IfExp c a b _ => if isIf c = true then none else (cE cf N n sc c).bind fun cc => (cE cf N n sc a).bind fun ca => (cE cf N n sc b).map fun cb => .ite cc ca cb
    | .Subscript a (.Slice lo hi none _) _ => (cE cf N n sc a).bind fun ca => (cO (cE cf N n sc) lo).bind fun cl => (cO (cE cf N n sc) hi).map fun ch => .slc ca cl ch
    | .Subscript a (.Slice none none (some (.UnaryOp .USub (.Constant (.int 1) _ _) _)) _) _ => (cE cf N n sc a).map .rev
    | .Subscript a b _ => if isSl b = true then none else (cE cf N n sc b).bind fun cb => (match a with
      | .Name x _ => (match slotOf N sc x with
        | some i => if i ∈ cf.lin then some (.lidx i cb) else (cE cf N n sc a).map fun ca => .idx ca cb
        | none => (cE cf N n sc a).map fun ca => .idx ca cb)
      | a => (cE cf N n sc a).map fun ca => .idx ca cb)
    | .Tuple es _ _ => (cEsF (cE cf N n sc) es).map .tup
    | .List es p => (cEsF (cE cf N n sc) es).map fun cs => if (p.line, p.col) ∈ cf.ml then .mlst cs else .lst cs
    | .Call (.Name f _) (a :: es) [] _ => if glB sc f = true then (match lamOf a with
      | some (s, b) => (match es with
        | [] => (match cf.err with
          | some (x, nms) => if (cf.lam && decide (x = f) && LamX.lamSB sc s) = true then (cE cf.nolam N n s b).map (.err nms) else none
          | none => none)
        | _ => none)
      | none => (match cf.fns.lookup f with
        | some (k, F) => if es.length + 1 = k then (cEsF (cE cf N n sc) (a :: es)).map fun cs => .call F cs else none
        | none => (match rngOf cf sc f a es with
          | some b => (cE cf N n sc b).map .lrng
          | none => (biOf f).bind fun g => (cEsF (cE cf N n sc) (a :: es)).map fun cs => .bi g cs))) else none
    | .Call (.Attribute o m ap) [] [] cp => if callB o = false ∧ (ap.endLine == cp.line) = true then (me0 m).bind fun f => (cE cf N n sc o).map fun co => .meth f co .nil else none
    | .Call (.Attribute o m ap) [e] [] cp => if callB o = false ∧ (ap.endLine == cp.line) = true then (me1 m).bind fun f => (cE cf N n sc o).bind fun co => (cE cf N n sc e).map fun ce => .meth f co (.cons ce .nil) else none
    | .ListComp elt [⟨tg, iter, ifs, 0⟩] sc2 _ => if blkC N sc sc2 (ownOf N sc2) = true then (cTg N sc2 tg).bind fun ct => if ct.slots.all (fun i => decide (i ∈ (ownOf N sc2).map (·.2))) = true then (cIt (cE cf N n sc) sc cf tg iter).bind fun ci => (cIf (cE cf.nolam N n (relS sc2 sc)) ifs).bind fun cc => (cE cf.nolam N n (relS sc2 sc) elt).map fun ce => .comp ce ct ci cc ((ownOf N sc2).map (·.2)) else none else none
    | _ => none
/-- list(range(..)) is read ahead of the rest -/
theorem ixOf_ok {x : Str} : ∀ {N : List Str} {i : Nat}, ixOf x N = some i → N[i]? = some x
  | [], _, h => by simp [ixOf] at h
  | y :: ys, i, h => by
    unfold ixOf at h
    split at h
    · rename_i e
      cases h
      simp only [List.getElem?_cons_zero, Option.some.injEq]
      exact of_decide_eq_true e
    · simp only [Option.map_eq_some_iff] at h
      obtain ⟨j, h1, rfl⟩ := h
      simpa using ixOf_ok h1
/-! ### where one stands -/
abbrev veB : List Value := [.type "ValueError", .type "Exception", .type "BaseException", .type "object"]
structure Cxt (X : Cx) (cf : Cf) (N : List Str) (sc : Scope) (T : List (Addr × Str)) (W : WX) (j k : Nat) : Prop where
  hN : X.N = N
  nd : N.Nodup
  hsc : X.env.scope = sc
  calm : X.calm = true
  room : Room k X.A
  jk : j ≤ k
  tk : L2N.Takes X W
  fns : ∀ x a F, cf.fns.lookup x = some (a, F) → ∃ f fd ps, X.mg x = some (.ref f) ∧ PySem.W.keepIn X.K (.ref f) = true ∧ Binds X.K fd ps [] ∧ FnOk X.prog X.w X.K X.mg X.base (L2N.CX X.prog X.w) j f fd ps (spF X.K X.mg T a F)
  cons : ∀ x d, cf.cons.lookup x = some d → ∃ v u, X.mg x = some u ∧ RelV v u ∧ ∀ ι Z H, Rp X.K X.mg ι Z H d v
  bis : ∀ x ∈ biNames, X.mg x = none
  excs : ∀ c ∈ cf.excs, ∃ C, X.mg c = some (.ref C) ∧ PySem.W.excIn X.K C veB "ValueError.__new__" = true ∧ PySem.W.keepIn X.K (.ref C) = true ∧ Raises X (.ref C)
  err : ∀ x nms, cf.err = some (x, nms) → ∃ g pg bg sg fd L cs CE, Mh.ErrD X.K X.mg x pg bg sg g fd L cs CE ∧ ∀ c lbl, nms.lookup c = some lbl → ∀ C, X.mg c = some (.ref C) → Mh.LblE X.K X.mg L cs CE C lbl
  lam : cf.lam = true → j + 2 ≤ k ∧ ∃ c P, X.env.code = .ref c ∧ LamX.TabB X.base X.mg c P ∧ (P, X.env.qual ++ "<lambda>") ∈ T ∧ ∀ p ∈ T, p.1 = P → p.2 = X.env.qual ++ "<lambda>"
theorem Cxt.blk {X : Cx} {cf : Cf} {N : List Str} {sc : Scope} {T : List (Addr × Str)} {W : WX} {j k : Nat} (C : Cxt X cf N sc T W j k) (scope : Scope) (s : Shared) (H : Hp) (cl : List (Str × Addr)) (a : Addr) (fp : List Addr) :
    Cxt (X.blk s H scope (compEnvC scope cl a X.env) fp) cf.nolam N (relS scope sc) T WF j k :=
  ⟨C.hN, C.nd, by rw [← C.hsc]; rfl, C.calm, C.room, C.jk, takesF, C.fns, C.cons, C.bis, fun c hc => C.excs c hc, C.err, fun z => by cases z⟩
theorem Cxt.lamN {X : Cx} {cf : Cf} {N : List Str} {sc : Scope} {T : List (Addr × Str)} {W : WX} {j k : Nat} (C : Cxt X cf N sc T W j (k + 2)) (hjk : j ≤ k) (scope : Scope) (A : Around) (outer : List Env) (s : Shared) (H : Hp) (E : XK) (f c' : Addr) (hr : Room k (A.deeper (LamX.lamEnv X scope s.heap.objs.size f c'))) :
    Cxt (Mh.lamN X A outer s H E scope f c') cf.nolam N scope T (fun cls d _ H => E cls d H) j k :=
  ⟨C.hN, C.nd, rfl, rfl, hr, hjk, Mh.lamN_takes, C.fns, C.cons, C.bis, fun c hc => C.excs c hc, C.err, fun z => by cases z⟩
theorem slot_of {N : List Str} {sc : Scope} {x : Str} {i : Nat} (h : slotOf N sc x = some i) : Vis sc x ∧ N[i]? = some x ∧ (x == ("__debug__" : Str)) = false ∧ (x == ("__classdict__" : Str)) = false := by
  unfold slotOf at h
  split at h
  · rename_i e
    simp only [Bool.and_eq_true, Bool.not_eq_true'] at e
    exact ⟨vis_of e.1.1, ixOf_ok h, e.1.2, e.2⟩
  · cases h
def isStar : Expr → Bool
  | .Starred .. => true
  | _ => false
theorem star1 {e : Expr} {es : List Expr} {env : Env} (h : isStar e = false) : starEach (e :: es) env = (false, eval e env) :: starEach es env := by
  cases e <;> first | rfl | (simp [isStar] at h)
theorem back0 {pos : Pos} {env : Env} : ∀ {es : List Expr}, es.all (fun e => !isStar e) = true → (backTo pos (starEach es env)).any (·.1) = false
  | [], _ => rfl
  | e :: es, h => by
    simp only [List.all_cons, Bool.and_eq_true, Bool.not_eq_true'] at h
    rw [star1 h.1]
    have := back0 (pos := pos) (env := env) h.2
    unfold backTo at this ⊢
    simp only [List.map_cons, List.any_cons, this, Bool.or_false]
theorem cE_star {cf : Cf} {N : List Str} {n : Nat} {sc : Scope} {e : Expr} {c : E} (h : cE cf N n sc e = some c) : isStar e = false := by
  cases n with
  | zero => simp [cE] at h
  | succ n => cases e <;> first | rfl | (simp [cE] at h)
theorem cEs_star {cf : Cf} {N : List Str} {n : Nat} {sc : Scope} : ∀ {es : List Expr} {cs : Es}, cEsF (cE cf N n sc) es = some cs → es.all (fun e => !isStar e) = true
  | [], _, _ => rfl
  | e :: es, cs, h => by
    unfold cEsF at h
    simp only [Option.bind_eq_some_iff, Option.map_eq_some_iff] at h
    obtain ⟨c, h1, cs', h2, rfl⟩ := h
    simp only [List.all_cons, Bool.and_eq_true, Bool.not_eq_true']
    exact ⟨cE_star h1, cEs_star h2⟩
theorem cEs_len {f : Expr → Option E} : ∀ {es : List Expr} {cs : Es}, cEsF f es = some cs → ∀ δ μ xs μ', evs cs δ μ = some (.ok xs, μ') → xs.length = es.length
  | [], cs, h, δ, μ, xs, μ', hx => by
    simp only [cEsF, Option.some.injEq] at h
    subst h
    simp only [evs, retR, Option.some.injEq, Prod.mk.injEq, Except.ok.injEq] at hx
    rw [← hx.1]; rfl
  | e :: es, cs, h, δ, μ, xs, μ', hx => by
    unfold cEsF at h
    simp only [Option.bind_eq_some_iff, Option.map_eq_some_iff] at h
    obtain ⟨c, h1, cs', h2, rfl⟩ := h
    simp only [evs] at hx
    match hq : ev c δ μ, hx with
    | some (.ok d, μ1), hx =>
      simp only [bindR] at hx
      match hr : evs cs' δ μ1, hx with
      | some (.ok ds, μ2), hx =>
        simp only [retR, Option.some.injEq, Prod.mk.injEq, Except.ok.injEq] at hx
        rw [← hx.1, List.length_cons, List.length_cons, cEs_len h2 _ _ _ _ hr]
theorem bi_ok {X : Cx} {T : List (Addr × Str)} (hc : X.calm = true) {x : Str} {f : Bi} (h : biOf x = some f) : x ∈ biNames ∧ ((∃ id, bootBuiltins x = some (.builtin id) ∧ CallR X (.builtin id) (rb X.K X.mg T f)) ∨ ∃ id, bootBuiltins x = some (.type id) ∧ CallR X (.type id) (rb X.K X.mg T f)) := by
  unfold biOf at h
  repeat (split at h; · (cases h; rename_i e; have e := of_decide_eq_true e; subst e; refine ⟨by decide +kernel, ?_⟩; first
    | exact .inl ⟨_, by decide +kernel, cb_len⟩ | exact .inl ⟨_, by decide +kernel, cb_abs⟩ | exact .inr ⟨_, by decide +kernel, cb_int⟩ | exact .inr ⟨_, by decide +kernel, cb_str⟩ | exact .inl ⟨_, by decide +kernel, cb_min hc⟩
    | exact .inl ⟨_, by decide +kernel, cb_max hc⟩ | exact .inl ⟨_, by decide +kernel, cb_sum hc⟩ | exact .inr ⟨_, by decide +kernel, cb_list⟩ | exact .inr ⟨_, by decide +kernel, cb_tuple⟩ | exact .inl ⟨_, by decide +kernel, cb_isi⟩
    | exact .inr ⟨_, by decide +kernel, cb_bool⟩))
  cases h
/-! ### targets, what is walked -/
section
variable {X : Cx} {cf : Cf} {N : List Str} {sc : Scope} {T : List (Addr × Str)} {W : WX} {j k : Nat}
theorem tg1 (hN : X.N = N) (nd : N.Nodup) {sw : Scope} (L : LocOk X sw) {x : Str} {i : Nat} {pos : Pos} (h : locB sw x = true) (hi : ixOf x N = some i) : PG X (.Name x pos) (gT X.K X.mg T (.name i)) :=
  mg_name (by rw [hN]; exact nd) (by rw [hN]; exact ixOf_ok hi) (L x h).1 (L x h).2
theorem tg_ok (hN : X.N = N) (nd : N.Nodup) (hc : X.calm = true) {sw : Scope} (L : LocOk X sw) {e : Expr} {ct : Tg} (h : cTg N sw e = some ct) : PG X e (gT X.K X.mg T ct) := by
  unfold cTg at h
  split at h
  · split at h
    · rename_i hx
      simp only [Option.map_eq_some_iff] at h
      obtain ⟨i, hi, rfl⟩ := h
      exact tg1 hN nd L hx hi
    · cases h
  · split at h
    · rename_i hx
      simp only [Bool.and_eq_true] at hx
      simp only [Option.bind_eq_some_iff, Option.map_eq_some_iff] at h
      obtain ⟨i, hi, j, hj, rfl⟩ := h
      exact mg_pair hc (tg1 hN nd L hx.1 hi) (tg1 hN nd L hx.2 hj) rfl rfl rfl rfl
    · cases h
  · split at h
    · rename_i hx
      simp only [Bool.and_eq_true] at hx
      simp only [Option.bind_eq_some_iff, Option.map_eq_some_iff] at h
      obtain ⟨i, hi, j, hj, l, hl, rfl⟩ := h
      exact mg_pair hc (tg1 hN nd L hx.1.1 hi) (mg_pair hc (tg1 hN nd L hx.1.2 hj) (tg1 hN nd L hx.2 hl) rfl rfl rfl rfl) rfl rfl rfl rfl
    · cases h
  · split at h
    · rename_i hx
      simp only [Bool.and_eq_true] at hx
      simp only [Option.bind_eq_some_iff, Option.map_eq_some_iff] at h
      obtain ⟨i, hi, j, hj, l, hl, rfl⟩ := h
      exact mg_trip hc (tg1 hN nd L hx.1.1 hi) (tg1 hN nd L hx.1.2 hj) (tg1 hN nd L hx.2 hl) rfl rfl rfl rfl rfl
    · cases h
  · cases h
theorem pa_ok {f : Expr → Option E} (hs : ∀ e c, f e = some c → isStar e = false) (ih : ∀ e c, f e = some c → PE X e (tE X.K X.mg T W c)) : ∀ {es : List Expr} {cs : Es}, cEsF f es = some cs → PA X es (tEs X.K X.mg T W cs)
  | [], cs, h => by
    simp only [cEsF, Option.some.injEq] at h
    subst h
    exact m_nil
  | e :: es, cs, h => by
    unfold cEsF at h
    simp only [Option.bind_eq_some_iff, Option.map_eq_some_iff] at h
    obtain ⟨c, h1, cs', h2, rfl⟩ := h
    exact m_cons (ih _ _ h1) (pa_ok hs ih h2) (star1 (hs _ _ h1))
theorem gl_X (C : Cxt X cf N sc T W j k) {x : Str} (h : glB sc x = true) : Gl X x := by
  have := (gl_of h).1
  rw [← C.hsc] at this
  exact this
theorem it_ok (C : Cxt X cf N sc T W j k) {f : Expr → Option E} (hs : ∀ e c, f e = some c → isStar e = false) (ih : ∀ e c, f e = some c → PE X e (tE X.K X.mg T W c)) {tg e : Expr} {ci : It} (h : cIt f sc cf tg e = some ci) :
    PI X tg e (tI X.K X.mg T W ci) ∧ ∀ x, foldedSetIterable e X.env x = pure x := by
  unfold cIt at h
  split at h
  · cases h
  · rename_i hset
    have hfold : ∀ x, foldedSetIterable e X.env x = pure x := by
      intro x
      cases e <;> first | rfl | (simp [isSet] at hset)
    have seq : ∀ {ci}, (f e).map It.seq = some ci → PI X tg e (tI X.K X.mg T W ci) := fun {ci} h => by
      simp only [Option.map_eq_some_iff] at h
      obtain ⟨c, h1, rfl⟩ := h
      exact mi_seq (ih _ _ h1)
    refine ⟨?_, hfold⟩
    split at h
    · split at h
      · rename_i hg
        split at h
        · rename_i e1
          have e1 := of_decide_eq_true e1
          subst e1
          simp only [Option.map_eq_some_iff] at h
          obtain ⟨c, h1, rfl⟩ := h
          exact mi_rng (gl_X C hg.1) (C.bis _ (by decide +kernel)) (m_cons (ih _ _ h1) m_nil (star1 (hs _ _ h1))) (star1 (hs _ _ h1))
        · split at h
          · rename_i e1
            have e1 := of_decide_eq_true e1
            subst e1
            split at h
            · rename_i htg
              simp only [Option.map_eq_some_iff] at h
              obtain ⟨c, h1, rfl⟩ := h
              cases tg <;> first | (simp [isTup] at htg; done) | exact mi_enum (gl_X C hg.1) (C.bis _ (by decide +kernel)) (m_cons (ih _ _ h1) m_nil (star1 (hs _ _ h1))) (star1 (hs _ _ h1))
            · cases h
          · exact seq h
      · exact seq h
    · split at h
      · rename_i hg
        split at h
        · rename_i e1
          have e1 := of_decide_eq_true e1
          subst e1
          simp only [Option.bind_eq_some_iff, Option.map_eq_some_iff] at h
          obtain ⟨c, h1, c2, h2, rfl⟩ := h
          exact mi_rng2 (gl_X C hg.1) (C.bis _ (by decide +kernel)) (m_cons (ih _ _ h1) (m_cons (ih _ _ h2) m_nil (star1 (hs _ _ h2))) (star1 (hs _ _ h1))) (by rw [star1 (hs _ _ h1), star1 (hs _ _ h2)]; rfl) (star1 (hs _ _ h2))
        · split at h
          · rename_i e1
            have e1 := of_decide_eq_true e1
            subst e1
            split at h
            · rename_i htg
              simp only [Option.bind_eq_some_iff, Option.map_eq_some_iff] at h
              obtain ⟨c, h1, c2, h2, rfl⟩ := h
              cases tg <;> first | (simp [isTup] at htg; done) | exact mi_zip (gl_X C hg.1) (C.bis _ (by decide +kernel)) (m_cons (ih _ _ h1) (m_cons (ih _ _ h2) m_nil (star1 (hs _ _ h2))) (star1 (hs _ _ h1))) (star1 (hs _ _ h1)) (back0 (by simp [hs _ _ h2]))
            · cases h
          · exact seq h
      · exact seq h
    · exact seq h
end
end Mi
set_option Elab.async false
set_option linter.all false
set_option maxRecDepth 100000
set_option maxHeartbeats 4000000
/-! Me: what is read off an expression is right. -/
namespace Mi
open PySem PySem.Spec PyProof.Rows L2 RZ
section
variable {N : List Str} {T : List (Addr × Str)} {k : Nat}
theorem ok_op {X : Cx} {T : List (Addr × Str)} {op : Operator} {o : Op} (h : opOf op = some o) : OpR X (binaryOp op) (r2 X.K X.mg T o) := by
  cases op <;> simp only [opOf, Option.some.injEq] at h <;> first | (subst h; first | exact ok_add | exact ok_sub | exact ok_mul | exact ok_mod | exact ok_pow | exact ok_fdiv) | cases h
theorem ok_cmop {X : Cx} {T : List (Addr × Str)} (hr : Room k X.A) (op : CmpOp) : OpR X (compareOp op) (r2 X.K X.mg T (cmOf op)) := by
  have hu := hr.un
  have h1 : X.A.units + 65 < cLine := by omega
  cases op with
  | Eq => exact ok_eq (by omega)
  | NotEq => exact ok_ne (by omega)
  | Lt => exact ok_cm .lt (by omega)
  | LtE => exact ok_cm .le (by omega)
  | Gt => exact ok_cm .gt (by omega)
  | GtE => exact ok_cm .ge (by omega)
  | Is => exact ok_is
  | IsNot => exact ok_isn
  | In => exact ok_in h1
  | NotIn => exact ok_nin h1
theorem bo_ok {X : Cx} {W : WX} {f : Expr → Option E} (ih : ∀ e c, f e = some c → PE X e (tE X.K X.mg T W c) ∧ (isIf e = false → PT X e (tT X.K X.mg T W c))) {op : BoolOp} : ∀ {vs : List Expr} {pos : Pos} {c : E}, cBo f op vs = some c → vs.any isIf = false → PE X (.BoolOp op vs pos) (tE X.K X.mg T W c) ∧ PW X (.BoolOp op vs pos) (tT X.K X.mg T W c)
  | [], _, _, h, _ => by simp [cBo] at h
  | [a], pos, c, h, hv => by
    simp only [List.any_cons, List.any_nil, Bool.or_false] at hv
    obtain ⟨h1, h2⟩ := ih _ _ (show f a = some c from h)
    cases op with
    | And => exact ⟨pe_one h1, m_andT1 (h2 hv)⟩
    | Or => exact ⟨pe_one h1, m_orT1 (h2 hv)⟩
  | a :: b :: r, pos, c, h, hv => by
    unfold cBo at h
    simp only [Option.bind_eq_some_iff, Option.map_eq_some_iff] at h
    obtain ⟨ca, h1, cr, h2, rfl⟩ := h
    rw [List.any_cons, Bool.or_eq_false_iff] at hv
    obtain ⟨p1, p2⟩ := ih _ _ h1
    obtain ⟨q1, q2⟩ := bo_ok ih (pos := pos) h2 hv.2
    cases op with
    | And => exact ⟨m_andV p1 q1, m_andT (p2 hv.1) q2⟩
    | Or => exact ⟨m_orV p1 q1, m_orT (p2 hv.1) q2⟩
theorem o_ok {X : Cx} {W : WX} {f : Expr → Option E} (ih : ∀ e c, f e = some c → PE X e (tE X.K X.mg T W c)) : ∀ {o : Option Expr} {c : Eo}, cO f o = some c → PO X o (tR X.K X.mg T W (fun _ _ _ (a b : Option Int) => a = b) (evo c))
  | none, c, h => by
    simp only [cO, Option.some.injEq] at h
    subst h
    exact m_no
  | some e, c, h => by
    simp only [cO, Option.map_eq_some_iff] at h
    obtain ⟨c, h1, rfl⟩ := h
    exact m_yes (ih _ _ h1)
theorem plainIx {b : Expr} (h : isSl b = false) : PlainIx b := by
  intro o i
  cases b <;> first | rfl | (simp [isSl] at h)
theorem boot_ty {x : Str} {t : String} (h : tyOf x = some t) : x ∈ biNames ∧ bootBuiltins x = some (.type t) := by
  unfold tyOf at h
  repeat (split at h; · (cases h; rename_i e; have e := of_decide_eq_true e; subst e; exact ⟨by decide +kernel, by decide +kernel⟩))
  cases h
theorem if_ok {X : Cx} {W : WX} {f : Expr → Option E} (ih : ∀ e c, f e = some c → PE X e (tE X.K X.mg T W c) ∧ (isIf e = false → PT X e (tT X.K X.mg T W c))) : ∀ {ifs : List Expr} {c : E}, cIf f ifs = some c → PTs X ifs (tT X.K X.mg T W c)
  | [], c, h => by
    simp only [cIf, Option.some.injEq] at h
    subst h
    refine ⟨fun pins s σ H Q I hh => pts_nil.run pins s σ H Q I ?_⟩
    obtain ⟨ι, Z, Zf, μ, δ, g, sr, hp⟩ := hh
    simp only [evT, ev] at hp
    exact post.ret (a := true) (b := true) hp g rfl
  | [e], c, h => by
    simp only [cIf] at h
    split at h
    · cases h
    · rename_i hi
      exact pts_one ((ih _ _ h).2 (by simpa using hi))
  | _ :: _ :: _, c, h => by simp [cIf] at h
theorem val_T {X : Cx} {W : WX} {e : Expr} {c : E} (h : PE X e (tE X.K X.mg T W c)) (hs : (match e with
  | .UnaryOp .Not _ _ => true
  | .BoolOp .. => true
  | .IfExp .. => true
  | .Compare .. => true
  | _ => false) = false) : PT X e (tT X.K X.mg T W c) := by
  refine m_val h fun whole => ?_
  cases e with
  | UnaryOp op a p => cases op <;> first | rfl | (simp at hs)
  | BoolOp _ _ _ => simp at hs
  | IfExp _ _ _ _ => simp at hs
  | Compare _ _ _ _ => simp at hs
  | _ => rfl
theorem me0_ok {X : Cx} {T : List (Addr × Str)} {m : Str} {f : Bi} (h : me0 m = some f) : ∃ id, Slot "str" m id ∧ typeOf (.builtin id) = pure (.type "method_descriptor") ∧ MtR X id (rM X.K X.mg T f) := by
  unfold me0 at h
  split at h <;> cases h
  rename_i e; subst e
  exact ⟨_, F.slot_str_upper, F.type_str_upper, mb_upper⟩
theorem me1_ok {X : Cx} {T : List (Addr × Str)} {m : Str} {f : Bi} (h : me1 m = some f) : ∃ id, Slot "str" m id ∧ typeOf (.builtin id) = pure (.type "method_descriptor") ∧ MtR X id (rM X.K X.mg T f) := by
  unfold me1 at h
  split at h
  · cases h
    rename_i e; subst e
    exact ⟨_, F.slot_str_split, F.type_str_split, mb_split⟩
  · split at h <;> cases h
    rename_i e; subst e
    exact ⟨_, F.slot_str_join, F.type_str_join, mb_join⟩
theorem base_ok {o : Expr} {m : Str} {env : Env} (h : callB o = false) : attributeBase o m env (eval o env) = eval o env := by
  unfold attributeBase
  split
  · simp [callB] at h
  · rfl
theorem mrepOf_inv {cf : Cf} {a x : Expr} {op : Operator} (h : mrepOf cf a op = some x) : ∃ p, a = .List [x] p ∧ op = .Mult := by
  unfold mrepOf at h
  split at h
  · split at h
    · cases h; exact ⟨_, rfl, rfl⟩
    · cases h
  · cases h
theorem keysOf_all : ∀ {keys : List (Option Expr)} {ks : List Str}, keysOf keys = some ks → keys.all (·.isSome) = true
  | [], _, _ => rfl
  | k :: keys, ks, h => by
    unfold keysOf at h
    split at h
    · rename_i z; cases z
    · rename_i z
      cases z
      simp only [Option.map_eq_some_iff] at h
      obtain ⟨r, h1, rfl⟩ := h
      simp [keysOf_all h1]
    · cases h
theorem keysOf_len : ∀ {keys : List (Option Expr)} {ks : List Str}, keysOf keys = some ks → ks.length = keys.length
  | [], ks, h => by simp only [keysOf, Option.some.injEq] at h; subst h; rfl
  | k :: keys, ks, h => by
    unfold keysOf at h
    split at h
    · rename_i z; cases z
    · rename_i z
      cases z
      simp only [Option.map_eq_some_iff] at h
      obtain ⟨r, h1, rfl⟩ := h
      simp [keysOf_len h1]
    · cases h
theorem cEsF_len {f : Expr → Option E} : ∀ {es : List Expr} {cs : Es}, cEsF f es = some cs → lenE cs = es.length
  | [], cs, h => by simp only [cEsF, Option.some.injEq] at h; subst h; rfl
  | e :: es, cs, h => by
    unfold cEsF at h
    simp only [Option.bind_eq_some_iff, Option.map_eq_some_iff] at h
    obtain ⟨c, h1, cs', h2, rfl⟩ := h
    simp [lenE, cEsF_len h2]
theorem pps_ok {X : Cx} {W : WX} {f : Expr → Option E} (ih : ∀ e c, f e = some c → PE X e (tE X.K X.mg T W c)) {pos : Pos} : ∀ {keys : List (Option Expr)} {ks : List Str} {values : List Expr} {cs : Es}, keys.length = values.length → keysOf keys = some ks → cEsF f values = some cs → PPs X pos keys values (trsOf X.K X.mg T W ks cs)
  | [], ks, [], cs, _, h, h2 => by
    simp only [keysOf, Option.some.injEq] at h
    simp only [cEsF, Option.some.injEq] at h2
    subst h h2
    exact pps_nil
  | k :: keys, ks, v :: values, cs, hl, h, h2 => by
    unfold keysOf at h
    unfold cEsF at h2
    simp only [Option.bind_eq_some_iff, Option.map_eq_some_iff] at h2
    obtain ⟨c, h3, cs', h4, rfl⟩ := h2
    split at h
    · rename_i z; cases z
    · rename_i z
      cases z
      simp only [Option.map_eq_some_iff] at h
      obtain ⟨r, h1, rfl⟩ := h
      exact pps_cons pe_str (ih _ _ h3) (pps_ok ih (by simpa using hl) h1 h4)
    · cases h
  | [], ks, v :: values, cs, hl, h, h2 => by simp at hl
  | k :: keys, ks, [], cs, hl, h, h2 => by simp at hl
theorem rngOf_inv {cf : Cf} {sc : Scope} {f : Str} {a b : Expr} {es : List Expr} (h : rngOf cf sc f a es = some b) : ∃ p2 p3, f = "list" ∧ a = .Call (.Name "range" p2) [b] [] p3 ∧ es = [] ∧ glB sc "range" = true := by
  unfold rngOf at h
  split at h
  · split at h
    · rename_i hq
      obtain ⟨rfl, rfl, h3, h4⟩ := hq
      cases h
      exact ⟨_, _, rfl, rfl, rfl, h3⟩
    · cases h
  · cases h
theorem lamOf_inv {a b : Expr} {s : Scope} (h : lamOf a = some (s, b)) : ∃ p, a = .Lambda ⟨[], [], none, [], [], none, []⟩ b s p := by
  unfold lamOf at h
  split at h
  · cases h; exact ⟨_, rfl⟩
  · cases h
theorem e_ok : ∀ (n : Nat) (cf : Cf) (sc : Scope) (e : Expr) (c : E), cE cf N n sc e = some c → ∀ (X : Cx) (W : WX) (j k : Nat), Cxt X cf N sc T W j k → PE X e (tE X.K X.mg T W c) ∧ (isIf e = false → PT X e (tT X.K X.mg T W c)) := by
  intro n
  induction n with
  | zero => intro cf sc e c h; simp [cE] at h
  | succ n ih =>
    intro cf sc e c h X W j k C
    have ihE : ∀ e c, cE cf N n sc e = some c → PE X e (tE X.K X.mg T W c) := fun e c h => (ih cf sc e c h X W j k C).1
    have ihB : ∀ e c, cE cf N n sc e = some c → PE X e (tE X.K X.mg T W c) ∧ (isIf e = false → PT X e (tT X.K X.mg T W c)) := fun e c h => ih cf sc e c h X W j k C
    unfold cE at h
    split at h
    · -- Name
      rename_i x pos
      have hPE : PE X (.Name x pos) (tE X.K X.mg T W c) := by
        split at h
        · rename_i i hi
          cases h
          obtain ⟨h1, h2, h3, h4⟩ := slot_of hi
          exact m_var (by rw [C.hN]; exact h2) (by rw [C.hsc]; exact h1) h3 h4
        · split at h
          · rename_i hg
            split at h
            · rename_i d hd
              cases h
              obtain ⟨v, u, h1, h2, h3⟩ := C.cons _ _ hd
              exact m_glob (gl_X C hg) h1 h2 h3 (gl_of hg).2.1
            · simp only [Option.map_eq_some_iff] at h
              obtain ⟨t, h1, rfl⟩ := h
              obtain ⟨h2, h3⟩ := boot_ty h1
              exact m_blt (gl_X C hg) (C.bis _ h2) h3 (gl_of hg).2.2 (gl_of hg).2.1
          · cases h
      exact ⟨hPE, fun _ => val_T hPE rfl⟩
    · cases h; exact ⟨m_int, fun _ => val_T m_int rfl⟩
    · cases h; exact ⟨m_bl, fun _ => val_T m_bl rfl⟩
    · cases h; exact ⟨m_str, fun _ => val_T m_str rfl⟩
    · cases h; exact ⟨m_non, fun _ => val_T m_non rfl⟩
    · -- BinOp
      split at h
      · rename_i x hx
        obtain ⟨lp, rfl, rfl⟩ := mrepOf_inv hx
        simp only [Option.bind_eq_some_iff, Option.map_eq_some_iff] at h
        obtain ⟨cx, h1, cb, h2, rfl⟩ := h
        exact ⟨m_mrep (ihE _ _ h1) (ihE _ _ h2) (star1 (cE_star h1)), fun _ => val_T (m_mrep (ihE _ _ h1) (ihE _ _ h2) (star1 (cE_star h1))) rfl⟩
      · simp only [Option.bind_eq_some_iff, Option.map_eq_some_iff] at h
        obtain ⟨o, h1, ca, h2, cb, h3, rfl⟩ := h
        have := m_op (pos := ‹Pos›) (ok_op (X := X) (T := T) h1) (ihE _ _ h2) (ihE _ _ h3)
        exact ⟨this, fun _ => val_T this rfl⟩
    · -- dict
      split at h
      · rename_i hq
        simp only [Option.bind_eq_some_iff, Option.map_eq_some_iff] at h
        obtain ⟨ks, h1, cs, h2, rfl⟩ := h
        have hPE := m_dct (pos := ‹Pos›) (pps_ok ihE hq.1 h1 h2) (keysOf_all h1) hq.1 hq.2.2 hq.2.1 (by rw [keysOf_len h1, hq.1, cEsF_len h2])
        exact ⟨hPE, fun _ => val_T hPE rfl⟩
      · cases h
    · simp only [Option.map_eq_some_iff] at h
      obtain ⟨ca, h1, rfl⟩ := h
      have := m_neg (pos := ‹Pos›) (ihE _ _ h1)
      exact ⟨this, fun _ => val_T this rfl⟩
    · -- not of a name
      split at h
      · simp only [Option.map_eq_some_iff] at h
        obtain ⟨ca, h1, rfl⟩ := h
        exact ⟨m_nott (ihE _ _ h1), fun _ => m_nottT (ihE _ _ h1)⟩
      · simp only [Option.map_eq_some_iff] at h
        obtain ⟨ca, h1, rfl⟩ := h
        exact ⟨m_notV (ihE _ _ h1), fun _ => m_notT ((ihB _ _ h1).2 rfl)⟩
    · split at h
      · cases h
      · rename_i hi
        simp only [Option.map_eq_some_iff] at h
        obtain ⟨ca, h1, rfl⟩ := h
        exact ⟨m_notV (ihE _ _ h1), fun _ => m_notT ((ihB _ _ h1).2 (by simpa using hi))⟩
    · split at h
      · cases h
      · rename_i hi
        obtain ⟨p, q⟩ := bo_ok ihB (pos := ‹Pos›) h (by simpa using hi)
        exact ⟨p, fun _ => q.pt⟩
    · split at h
      · cases h
      · rename_i hm
        simp only [Option.bind_eq_some_iff, Option.map_eq_some_iff] at h
        obtain ⟨ca, h2, cb, h3, rfl⟩ := h
        have hm' := Bool.eq_false_iff.mpr hm
        exact ⟨m_cmp (ok_cmop C.room _) (ihE _ _ h2) (ihE _ _ h3) hm', fun _ => m_cmpT (ok_cmop C.room _) (ihE _ _ h2) (ihE _ _ h3) hm'⟩
    · split at h
      · cases h
      · rename_i hm
        simp only [Option.bind_eq_some_iff, Option.map_eq_some_iff] at h
        obtain ⟨ca, h2, cb, h3, cc, h4, rfl⟩ := h
        have hm' := Bool.eq_false_iff.mpr hm
        exact ⟨m_chain (ok_cmop C.room _) (ok_cmop C.room _) (ihE _ _ h2) (ihE _ _ h3) (ihE _ _ h4) hm', fun _ => m_chainT (ok_cmop C.room _) (ok_cmop C.room _) (ihE _ _ h2) (ihE _ _ h3) (ihE _ _ h4) hm'⟩
    · split at h
      · cases h
      · rename_i hi
        simp only [Option.bind_eq_some_iff, Option.map_eq_some_iff] at h
        obtain ⟨cc, h2, ca, h3, cb, h4, rfl⟩ := h
        exact ⟨m_ite ((ihB _ _ h2).2 (by simpa using hi)) (ihE _ _ h3) (ihE _ _ h4), fun z => by simp [isIf] at z⟩
    · -- slice
      simp only [Option.bind_eq_some_iff, Option.map_eq_some_iff] at h
      obtain ⟨ca, h2, cl, h3, ch, h4, rfl⟩ := h
      exact ⟨m_slc (ihE _ _ h2) (o_ok ihE h3) (o_ok ihE h4), fun _ => val_T (m_slc (ihE _ _ h2) (o_ok ihE h3) (o_ok ihE h4)) rfl⟩
    · -- from the end
      simp only [Option.map_eq_some_iff] at h
      obtain ⟨ca, h1, rfl⟩ := h
      exact ⟨m_rev (ihE _ _ h1), fun _ => val_T (m_rev (ihE _ _ h1)) rfl⟩
    · -- item
      rename_i a b pos hne hne2
      have hPE : PE X (.Subscript a b pos) (tE X.K X.mg T W c) := by
        split at h
        · cases h
        · rename_i hs
          have hs := plainIx (Bool.eq_false_iff.mpr hs)
          simp only [Option.bind_eq_some_iff] at h
          obtain ⟨cb, h2, h⟩ := h
          have fin : ∀ {a}, (cE cf N n sc a).map (fun ca => E.idx ca cb) = some c → PE X (.Subscript a b pos) (tE X.K X.mg T W c) := fun {a} h => by
            simp only [Option.map_eq_some_iff] at h
            obtain ⟨ca, h3, rfl⟩ := h
            exact m_idx (by have := C.room.un; omega) (ihE _ _ h3) (ihE _ _ h2) hs
          split at h
          · split at h
            · rename_i i hi
              split at h
              · cases h
                obtain ⟨h1, h3, h4, h5⟩ := slot_of hi
                exact m_lidx (by rw [C.hN]; exact h3) (by rw [C.hsc]; exact h1) h4 h5 (ihE _ _ h2) hs
              · exact fin h
            · exact fin h
          · exact fin h
      exact ⟨hPE, fun _ => val_T hPE rfl⟩
    · simp only [Option.map_eq_some_iff] at h
      obtain ⟨cs, h1, rfl⟩ := h
      have hPE := m_tup (pos := ‹Pos›) (k := ‹Nat›) (pa_ok (fun _ _ h => cE_star h) ihE h1)
      exact ⟨m_tup (pa_ok (fun _ _ h => cE_star h) ihE h1), fun _ => val_T (m_tup (pa_ok (fun _ _ h => cE_star h) ihE h1)) rfl⟩
    · simp only [Option.map_eq_some_iff] at h
      obtain ⟨cs, h1, rfl⟩ := h
      have hpa := pa_ok (W := W) (fun _ _ h => cE_star h) ihE h1
      split
      · exact ⟨m_mlst hpa, fun _ => val_T (m_mlst hpa) rfl⟩
      · exact ⟨m_lst hpa, fun _ => val_T (m_lst hpa) rfl⟩
    · -- call
      rename_i f p a es pos
      have hPE : PE X (.Call (.Name f p) (a :: es) [] pos) (tE X.K X.mg T W c) := by
        split at h
        · rename_i hg
          split at h
          · rename_i s2 b2 hla
            obtain ⟨lp, rfl⟩ := lamOf_inv hla
            split at h
            · split at h
              · rename_i xe nms he
                split at h
                · rename_i hq
                  simp only [Bool.and_eq_true, decide_eq_true_eq] at hq
                  obtain ⟨⟨q1, rfl⟩, q3⟩ := hq
                  simp only [Option.map_eq_some_iff] at h
                  obtain ⟨ce, h1, rfl⟩ := h
                  obtain ⟨hjk, cc, P, l1, l2, l3, l4⟩ := C.lam q1
                  obtain ⟨g, pg, bg, sg, fd, L, cs, CE, ED, hn⟩ := C.err _ _ he
                  obtain ⟨k', rfl⟩ : ∃ k', k = k' + 2 := ⟨k - 2, by omega⟩
                  refine m_err ED (gl_X C hg) l2 l1 l3 l4 C.room (by rw [C.hsc]; exact LamX.lamS_by q3) rfl (fun _ _ _ _ _ => rfl) hn (fun A outer s H E f c' hr => ?_) (gl_of hg).2.1
                  exact (ih _ _ _ _ h1 _ _ j k' (C.lamN (by omega) s2 A outer s H E f c' hr)).1
                · cases h
              · cases h
            · cases h
          · rename_i hla
            split at h
            · rename_i kk F hf
              split at h
              · rename_i hl
                simp only [Option.map_eq_some_iff] at h
                obtain ⟨cs, h1, rfl⟩ := h
                have hst := cEs_star h1
                simp only [List.all_cons, Bool.and_eq_true, Bool.not_eq_true'] at hst
                obtain ⟨f, fd, ps, hm, hk, hb, FO⟩ := C.fns _ _ _ hf
                exact m_call (FO.mono C.jk) C.room (gl_X C hg) hm hk hb C.tk hl (pa_ok (fun _ _ h => cE_star h) ihE h1) (gl_of hg).2.1 (star1 hst.1) (back0 hst.2) (fun δ μ xs μ' hx => by rw [cEs_len h1 _ _ _ _ hx, List.length_cons]; exact hl)
              · cases h
            · split at h
              · rename_i b hr
                obtain ⟨p2, p3, rfl, rfl, rfl, h3⟩ := rngOf_inv hr
                simp only [Option.map_eq_some_iff] at h
                obtain ⟨cb, h1, rfl⟩ := h
                exact m_lrng C.calm (gl_X C hg) (C.bis _ (by decide +kernel)) (gl_X C h3) (C.bis _ (by decide +kernel)) (ihE _ _ h1) (star1 (cE_star h1))
              · simp only [Option.bind_eq_some_iff, Option.map_eq_some_iff] at h
                obtain ⟨g, hg1, cs, h1, rfl⟩ := h
                have hst := cEs_star h1
                simp only [List.all_cons, Bool.and_eq_true, Bool.not_eq_true'] at hst
                obtain ⟨hn, hh⟩ := bi_ok (T := T) C.calm hg1
                rcases hh with ⟨id, hv, hc⟩ | ⟨id, hv, hc⟩
                · exact m_bi hc (gl_X C hg) (C.bis _ hn) hv (pa_ok (fun _ _ h => cE_star h) ihE h1) (gl_of hg).2.2 (gl_of hg).2.1 (star1 hst.1) (back0 hst.2)
                · exact m_biT hc (gl_X C hg) (C.bis _ hn) hv (pa_ok (fun _ _ h => cE_star h) ihE h1) (gl_of hg).2.2 (gl_of hg).2.1 (star1 hst.1) (back0 hst.2)
        · cases h
      exact ⟨hPE, fun _ => val_T hPE rfl⟩
    · -- methods of texts
      rename_i o m ap cp
      split at h
      · rename_i hq
        simp only [Option.bind_eq_some_iff, Option.map_eq_some_iff] at h
        obtain ⟨f, h1, co, h2, rfl⟩ := h
        obtain ⟨id, m1, m2, m3⟩ := me0_ok (X := X) (T := T) h1
        have hPE := m_meth0 m1 m2 m3 (ihE _ _ h2) (base_ok hq.1) hq.2
        exact ⟨hPE, fun _ => val_T hPE rfl⟩
      · cases h
    · rename_i o m ap e cp
      split at h
      · rename_i hq
        simp only [Option.bind_eq_some_iff, Option.map_eq_some_iff] at h
        obtain ⟨f, h1, co, h2, ce, h3, rfl⟩ := h
        obtain ⟨id, m1, m2, m3⟩ := me1_ok (X := X) (T := T) h1
        have hPE := m_meth1 m1 m2 m3 (ihE _ _ h2) (ihE _ _ h3) (star1 (cE_star h3)) (base_ok hq.1) hq.2
        exact ⟨hPE, fun _ => val_T hPE rfl⟩
      · cases h
    · -- comprehension
      rename_i elt tg iter ifs sc2 pos
      have hPE : PE X (.ListComp elt [⟨tg, iter, ifs, 0⟩] sc2 pos) (tE X.K X.mg T W c) := by
        split at h
        · rename_i hblk
          simp only [Option.bind_eq_some_iff] at h
          obtain ⟨ct, h1, h⟩ := h
          split at h
          · rename_i hsl
            simp only [Option.bind_eq_some_iff, Option.map_eq_some_iff] at h
            obtain ⟨ci, h2, cc, h3, ce, h4, rfl⟩ := h
            obtain ⟨p1, p2⟩ := it_ok C (fun _ _ h => cE_star h) ihE h2
            have hok : BlkOk X.N X.env.scope sc2 (ownOf N sc2) := by rw [C.hN, C.hsc]; exact blkOk_by hblk
            refine m_comp C.calm (by rw [C.hN]; exact C.nd) p1 hok (fun s H a cl fp => ?_) (fun s H a cl fp => ?_) (fun s H a cl fp => ?_) p2 _ rfl (fun i hi => ?_)
            · exact tg_ok (X := X.blk s H sc2 (compEnvC sc2 cl a X.env) fp) C.hN C.nd C.calm locOk_blk h1
            · exact if_ok (X := X.blk s H sc2 (compEnvC sc2 cl a X.env) fp) (fun e c h => ih _ _ e c h _ _ j k (C.blk sc2 s H cl a fp)) h3
            · exact (ih _ _ _ _ h4 _ _ j k (C.blk sc2 s H cl a fp)).1
            · exact of_decide_eq_true (List.all_eq_true.mp hsl i hi)
          · cases h
        · cases h
      exact ⟨hPE, fun _ => val_T hPE rfl⟩
    · cases h
end
end Mi
set_option Elab.async false
set_option linter.all false
set_option maxRecDepth 100000
set_option maxHeartbeats 4000000
/-! Mz: statements read off the text; a def's body. -/
namespace Mi
open PySem PySem.Spec PyProof.Rows L2 RZ
def isComp : Expr → Bool
  | .ListComp .. => true
  | .SetComp .. => true
  | .DictComp .. => true
  | _ => false
def swN (sc : Scope) (ts : List Expr) : List Str := ts.filterMap fun
  | .Name id pos => if (sc.names.lookup id == some .local && pos.line == (ts.head?.map (·.pos.line)).getD 0) = true then some id else none
  | _ => none
/-- what swappedStores comes to -/
def swP (sc : Scope) (ts vs : List Expr) : Option (Option (List Str)) :=
  if (!(ts.length == 2 || ts.length == 3) || vs.length != ts.length) = true then some none
  else if (vs.any fun | .Starred .. => true | _ => false) = true then some none
  else if ((swN sc ts).length != ts.length || (swN sc ts).eraseDups.length != (swN sc ts).length) = true then some none
  else if vs.all (foldedForSure 8) = true then some none
  else if vs.all (constantsAlone 8) = true then none
  else some (some (swN sc ts))
theorem swP_ok {sc : Scope} {env : Env} {ts vs : List Expr} {k k2 : Nat} {p p2 : Pos} {r : Option (List Str)} (hs : env.scope = sc) (hk : sc.kind = .function) (h : swP sc ts vs = some r) : swappedStores [.Tuple ts k p] (.Tuple vs k2 p2) env = pure r := by
  subst hs
  have hb : env.blockKind = .function := by unfold Env.blockKind; rw [hk]; rfl
  unfold swP at h
  unfold swappedStores
  simp only [hb]
  split at h
  · rename_i h1
    cases h
    simp only [bne_self_eq_false, Bool.or_false, h1, if_true]
  · rename_i h1
    simp only [bne_self_eq_false, Bool.or_false, h1, if_false]
    split at h
    · rename_i h2
      cases h
      exact if_pos h2
    · rename_i h2
      refine (if_neg h2).trans ?_
      show (if ((swN env.scope ts).length != ts.length || (swN env.scope ts).eraseDups.length != (swN env.scope ts).length) = true then pure none else if vs.all (foldedForSure 8) = true then pure none
        else if vs.all (constantsAlone 8) = true then (do
          unsupported "assign.tuple-of-constant-expressions:order-of-the-stores"
          pure (some (swN env.scope ts))) else pure (some (swN env.scope ts))) = pure r
      split at h
      · rename_i h3
        cases h
        exact if_pos h3
      · rename_i h3
        refine (if_neg h3).trans ?_
        split at h
        · rename_i h4
          cases h
          exact if_pos h4
        · rename_i h4
          refine (if_neg h4).trans ?_
          split at h
          · cases h
          · rename_i h5
            cases h
            exact if_neg h5
section
variable {X : Cx} {T : List (Addr × Str)} {W : WX} {pos : Pos}
theorem s_par3 {i j l : Nat} {x y z : Str} {a b c : Expr} {ca : Es} {px py pz pt : Pos} {kt k2 pt2} (hc : X.calm = true) (hN : X.N.Nodup) (hi : X.N[i]? = some x) (hj : X.N[j]? = some y) (hl : X.N[l]? = some z) (hij : i ≠ j) (hil : i ≠ l) (hjl : j ≠ l)
    (hx : X.env.scope.names.lookup x = some .local) (hy : X.env.scope.names.lookup y = some .local) (hz : X.env.scope.names.lookup z = some .local) (ha : PA X [a, b, c] (tEs X.K X.mg T W ca))
    (hw : swappedStores [.Tuple [.Name x px, .Name y py, .Name z pz] kt pt] (.Tuple [a, b, c] k2 pt2) X.env = pure (some [x, y, z]))
    (hs : swapsWithSole [.Tuple [.Name x px, .Name y py, .Name z pz] kt pt] (.Tuple [a, b, c] k2 pt2) pos.line X.env = pure false) :
    PS X (.Assign [.Tuple [.Name x px, .Name y py, .Name z pz] kt pt] (.Tuple [a, b, c] k2 pt2) pos) (tS X.K X.mg T W (.set (.trip (.name i) (.name j) (.name l)) (.tup ca))) :=
  PS.imp (ps_par3 hc hN hi hj hl hij hil hjl hx hy hz ha hw hs) fun D σ H h => by
    obtain ⟨ι, Zo, Zf, μ, δ, s, hp⟩ := h
    simp only [ex, ev] at hp
    refine ⟨ι, Zo ++ Zf, Zf, μ, δ, s.g, s.s, ?_⟩
    have hp2 : pS X.K X.mg T W (thenE (evs ca δ μ) δ fun xs μ => if xs.length ≤ sizeLine then ((Tg.trip (.name i) (.name j) (.name l)).put (.tup xs) δ).bind fun δ => some (.nx, δ, μ) else none) ι Zo Zf H D := by
      cases h : evs ca δ μ with
      | none => rw [h] at hp; exact hp
      | some r =>
        obtain ⟨r, μ1⟩ := r
        cases r with
        | error e => rw [h] at hp; exact hp
        | ok xs =>
          rw [h] at hp
          simp only [bindR] at hp
          split at hp
          · rename_i hz; simp only [if_pos hz]; exact hp
          · exact hp.elim
    refine hp2.thenE s fun xs μ1 ι1 vs H1 e1 r1 s1 h1 => ?_
    split at h1
    · cases hq : (Tg.trip (.name i) (.name j) (.name l)).put (.tup xs) δ with
      | none => rw [hq] at h1; exact h1.elim
      | some δ' =>
        obtain ⟨u, w, w3, δ1, δ2, e, p1, p2, p3⟩ := put_trip hq
        cases e
        rw [hq] at h1
        simp only [Tg.put, Option.some.injEq] at p1 p2 p3
        subst p1 p2 p3
        obtain ⟨v, vs', rfl, r2, r1⟩ := r1
        obtain ⟨v', v3, rfl, r3, r4⟩ := Rps.two r1
        exact ⟨v, v', v3, rfl, h1.nx ⟨s1.g, ((s1.s.set r2).set r3).set r4, s1.dj⟩⟩
    · exact h1.elim
end
def lineOf : Stmt → Nat
  | .Return _ p => p.line
  | .Assign _ _ p => p.line
  | .Expr _ p => p.line
  | .If _ _ _ p => p.line
  | .For _ _ _ _ p => p.line
  | .While _ _ _ p => p.line
  | .Raise _ _ p => p.line
  | _ => 0
def addStill : List Nat → Ss → Ss
  | [], s => s
  | i :: is, s => .cons (.still i) (addStill is s)
def cSsF (cf : Cf) (f : Stmt → Option St) : List Stmt → Option Ss
  | [] => some .nil
  | s :: r => (cSsF cf f r).map fun cs => addStill ((cf.still.lookup (lineOf s)).getD []) (.cons ((f s).getD .bot) cs)
/-- is an assignment of a tuple to a tuple in order? -/
def swG (sc : Scope) : Expr → Expr → Bool
  | .Tuple ts _ _, .Tuple vs _ _ => (swP sc ts vs).isSome
  | .Name .., _ => true
  | .Tuple .., _ => true
  | _, _ => false
def fuelW : Nat := 10 ^ 40
def cS (cf : Cf) (N : List Str) : Nat → Scope → Stmt → Option St
  | 0, _, _ => none
  | n + 1, sc, st => match st with
    | .Pass _ => some .pass
    | .Break _ => some .brk
    | .Continue _ => some .cont
    | .Expr (.Constant (.str _) _ _) _ => some .pass
    | .Expr (.Call (.Attribute (.Name x _) m p2) [e] [] p3) _ => if decide (m = "append") = true ∧ (p2.endLine == p3.line) = true then (slotOf N sc x).bind fun i => if i ∈ cf.lin then (cE cf N n sc e).map fun c => .app i c else none else none
    | .Expr e _ => if isComp e = true then none else (cE cf N n sc e).map .expr
    | .Return (some e) _ => (cE cf N n sc e).map .ret
    | .Return none _ => some .retn
    | .If c a b _ => if isIf c = true then none else (cE cf N n sc c).bind fun cc => (cSsF cf (cS cf N n sc) a).bind fun ca => (cSsF cf (cS cf N n sc) b).map fun cb => .ite cc ca cb
    | .For tg it body [] _ => (cTg N sc tg).bind fun ct => (cIt (cE cf N n sc) sc cf tg it).bind fun ci => (cSsF cf (cS cf N n sc) body).map fun cb => .for_ ct ci cb
    | .While c body [] _ => if isIf c = true then none else (cE cf N n sc c).bind fun cc => (cSsF cf (cS cf N n sc) body).map fun cb => .while_ fuelW cc cb
    | .Raise (some (.Call (.Name c _) [.Constant (.str _) _ _] [] _)) none _ => if glB sc c = true ∧ c ∈ cf.excs then some (.raise c) else none
    | .Assign [.Subscript o i _] v _ => if isSl i = true ∨ isComp v = true then none else (cE cf N n sc v).bind fun cv => (cE cf N n sc o).bind fun co => (cE cf N n sc i).map fun ci => .put co ci cv
    | .Assign [.Name x px] (.List es pe) _ => if locB sc x = true then (ixOf x N).bind fun i => if i ∈ cf.lin then (cEsF (cE cf N n sc) es).map fun cs => .lin i cs else (cE cf N n sc (.List es pe)).map fun ce => .set (.name i) ce else none
    | .Assign [tg] v _ => if swG sc tg v = true then (cTg N sc tg).bind fun ct => (cE cf N n sc v).map fun ce => .set ct ce else none
    | _ => none
/-- where a def's own statements stand -/
structure CxS (X : Cx) (cf : Cf) (N : List Str) (sc : Scope) (T : List (Addr × Str)) (W : WX) (j k : Nat) : Prop where
  c : Cxt X cf N sc T W j k
  po : PassesOwn (model X.prog X.w) X.A X.env X.xe
  fn : ∀ y, X.fn y = true
  fk : sc.kind = .function
theorem CxS.loc {X : Cx} {cf : Cf} {N : List Str} {sc : Scope} {T : List (Addr × Str)} {W : WX} {j k : Nat} (C : CxS X cf N sc T W j k) : LocOk X sc := fun y h => ⟨by rw [C.c.hsc]; exact loc_of h, .inl (C.fn y)⟩
theorem ss_stills {X : Cx} {T : List (Addr × Str)} {W : WX} {rest : List Stmt} {cs : Ss} (h : PSs X rest (tSs X.K X.mg T W cs)) : ∀ is : List Nat, PSs X rest (tSs X.K X.mg T W (addStill is cs))
  | [] => h
  | _ :: is => ss_still (ss_stills h is)
theorem ss_ok {X : Cx} {cf : Cf} {T : List (Addr × Str)} {W : WX} {f : Stmt → Option St} (ih : ∀ s c, f s = some c → PS X s (tS X.K X.mg T W c)) : ∀ {ss : List Stmt} {cs : Ss}, cSsF cf f ss = some cs → PSs X ss (tSs X.K X.mg T W cs)
  | [], cs, h => by
    simp only [cSsF, Option.some.injEq] at h
    subst h
    exact ss_nil
  | s :: r, cs, h => by
    unfold cSsF at h
    simp only [Option.bind_eq_some_iff, Option.map_eq_some_iff] at h
    obtain ⟨cr, h2, rfl⟩ := h
    refine ss_stills (ss_cons ?_ (ss_ok ih h2)) _
    cases h1 : f s with
    | none => exact ⟨fun pins sh σ H D I hh => by obtain ⟨_, _, _, _, _, _, hp⟩ := hh; exact hp.elim⟩
    | some c => exact ih _ _ h1
end Mi
set_option Elab.async false
set_option linter.all false
set_option maxRecDepth 100000
set_option maxHeartbeats 4000000
/-! My: what is read off a statement is right. -/
namespace Mi
open PySem PySem.Spec PyProof.Rows L2 RZ
section
variable {cf : Cf} {N : List Str} {T : List (Addr × Str)} {j k : Nat}
theorem lc_inv {n : Nat} {sc sc2 : Scope} {elt : Expr} {gs : List Comprehension} {pos : Pos} {c : E} (h : cE cf N n sc (.ListComp elt gs sc2 pos) = some c) : ∃ m tg iter ifs ct ci cc ce, n = m + 1 ∧ gs = [⟨tg, iter, ifs, 0⟩] ∧ blkC N sc sc2 (ownOf N sc2) = true ∧ cTg N sc2 tg = some ct ∧
    ct.slots.all (fun i => decide (i ∈ (ownOf N sc2).map (·.2))) = true ∧ cIt (cE cf N m sc) sc cf tg iter = some ci ∧ cIf (cE cf.nolam N m (relS sc2 sc)) ifs = some cc ∧ cE cf.nolam N m (relS sc2 sc) elt = some ce ∧ c = .comp ce ct ci cc ((ownOf N sc2).map (·.2)) := by
  cases n with
  | zero => simp [cE] at h
  | succ n =>
    unfold cE at h
    split at h
    all_goals first
      | (rename_i e; cases e; done)
      | skip
    · rename_i e
      cases e
      split at h
      · rename_i hblk
        simp only [Option.bind_eq_some_iff] at h
        obtain ⟨ct, h1, h⟩ := h
        split at h
        · rename_i hsl
          simp only [Option.bind_eq_some_iff, Option.map_eq_some_iff] at h
          obtain ⟨ci, h2, cc, h3, ce, h4, rfl⟩ := h
          exact ⟨n, _, _, _, ct, ci, cc, ce, rfl, rfl, hblk, h1, hsl, h2, h3, h4, rfl⟩
        · cases h
      · cases h
    · cases h
theorem set_lc {n : Nat} {sc sc2 : Scope} {elt : Expr} {gs : List Comprehension} {cpos px pos : Pos} {x : Str} {i : Nat} {c : E} (hx : locB sc x = true) (hi : ixOf x N = some i) (h : cE cf N n sc (.ListComp elt gs sc2 cpos) = some c) (X : Cx) (W : WX) (C : CxS X cf N sc T W j k) :
    PS X (.Assign [.Name x px] (.ListComp elt gs sc2 cpos) pos) (tS X.K X.mg T W (.set (.name i) c)) := by
  by_cases hs : (X.env.blockKind == .function && X.env.kindOf x == some .local && px.line == cpos.line && !(sc2.names.any fun (n, k) => n == x && (k == .local || k == .cell))) = true
  · have hsw : swapsWith (.ListComp elt gs sc2 cpos) (some (.Name x px)) pos.line X.env = pure true := by
      show (pure _ : PySem.Sem Bool) = pure true
      exact congrArg pure hs
    obtain ⟨m, tg, iter, ifs, ct, ci, cc, ce, rfl, rfl, hblk, h1, hsl, h2, h3, h4, rfl⟩ := lc_inv h
    have ihE := fun e c h => (e_ok (T := T) m cf sc e c h X W j k C.c).1
    obtain ⟨p1, p2⟩ := it_ok C.c (fun _ _ h => cE_star h) ihE h2
    have hok : BlkOk X.N X.env.scope sc2 (ownOf N sc2) := by rw [C.c.hN, C.c.hsc]; exact blkOk_by hblk
    have hyl : X.env.scope.names.lookup x = some .local := by
      simp only [Bool.and_eq_true] at hs
      exact eq_of_beq hs.1.1.2
    refine s_setLc C.c.calm (by rw [C.c.hN]; exact C.c.nd) (by rw [C.c.hN]; exact ixOf_ok hi) hyl hsw p1 hok (fun s H a cl fp => ?_) (fun s H a cl fp => ?_) (fun s H a cl fp => ?_) p2 _ rfl (fun i hi => ?_)
    · exact tg_ok (X := X.blk s H sc2 (compEnvC sc2 cl a X.env) fp) C.c.hN C.c.nd C.c.calm locOk_blk h1
    · exact if_ok (X := X.blk s H sc2 (compEnvC sc2 cl a X.env) fp) (fun e c h => e_ok m _ _ e c h _ _ j k (C.c.blk sc2 s H cl a fp)) h3
    · exact (e_ok m _ _ _ _ h4 _ _ j k (C.c.blk sc2 s H cl a fp)).1
    · exact of_decide_eq_true (List.all_eq_true.mp hsl i hi)
  · have hsw : swapsWith (.ListComp elt gs sc2 cpos) (some (.Name x px)) pos.line X.env = pure false := by
      show (pure _ : PySem.Sem Bool) = pure false
      exact congrArg pure (Bool.eq_false_iff.mpr hs)
    exact s_set (e_ok n cf sc _ _ h X W j k C.c).1 (tg1 C.c.hN C.c.nd C.loc hx hi) hsw rfl rfl
def swF (sc : Scope) (ln : Nat) : Expr → Option Str
  | .Name id pos => if (sc.names.lookup id == some .local && pos.line == ln) = true then some id else none
  | _ => none
theorem swN_eq {sc : Scope} {ts : List Expr} : swN sc ts = ts.filterMap (swF sc ((ts.head?.map (·.pos.line)).getD 0)) := by
  unfold swN
  congr 1
theorem fm_cons {f : Expr → Option Str} {t : Expr} {ts : List Expr} (h : ((t :: ts).filterMap f).length = ts.length + 1) : ∃ x, f t = some x ∧ (ts.filterMap f).length = ts.length ∧ (t :: ts).filterMap f = x :: ts.filterMap f := by
  cases hq : f t with
  | none =>
    rw [List.filterMap_cons_none hq] at h
    have := List.length_filterMap_le f ts
    omega
  | some x =>
    rw [List.filterMap_cons_some hq] at h
    exact ⟨x, rfl, by simpa using h, List.filterMap_cons_some hq⟩
theorem swF_inv {sc : Scope} {ln : Nat} {t : Expr} {x : Str} (h : swF sc ln t = some x) : ∃ p, t = .Name x p ∧ sc.names.lookup x = some .local := by
  unfold swF at h
  split at h
  · split at h
    · rename_i e
      cases h
      simp only [Bool.and_eq_true] at e
      exact ⟨_, rfl, eq_of_beq e.1⟩
    · cases h
  · cases h
theorem swP_inv {sc : Scope} {ts vs : List Expr} {ns : List Str} (h : swP sc ts vs = some (some ns)) : ns = swN sc ts ∧ vs.length = ts.length ∧ (ts.length = 2 ∨ ts.length = 3) ∧ (swN sc ts).length = ts.length ∧ (swN sc ts).eraseDups.length = (swN sc ts).length := by
  unfold swP at h
  split at h
  · cases h
  · rename_i h1
    split at h
    · cases h
    · split at h
      · cases h
      · rename_i h3
        split at h
        · cases h
        · split at h
          · cases h
          · simp only [Option.some.injEq] at h
            simp at h1 h3
            exact ⟨h.symm, h1.2, by omega, h3.1, h3.2⟩
theorem cE_tup {n : Nat} {sc : Scope} {vs : List Expr} {k : Nat} {p : Pos} {c : E} (h : cE cf N n sc (.Tuple vs k p) = some c) : ∃ m cs, n = m + 1 ∧ cEsF (cE cf N m sc) vs = some cs ∧ c = .tup cs := by
  cases n with
  | zero => simp [cE] at h
  | succ n =>
    unfold cE at h
    simp only [Option.map_eq_some_iff] at h
    obtain ⟨cs, h1, rfl⟩ := h
    exact ⟨n, cs, rfl, h1, rfl⟩
theorem ix_ne {x y : Str} {i j : Nat} (hi : ixOf x N = some i) (hj : ixOf y N = some j) (h : x ≠ y) : i ≠ j := fun e => by
  subst e
  have a := ixOf_ok hi
  have b := ixOf_ok hj
  rw [a] at b
  cases b
  exact h rfl
theorem dup2 {x y : Str} (h : [x, y].eraseDups.length = 2) : x ≠ y := fun e => by
  subst e
  simp [List.eraseDups_cons] at h
theorem dup3 {x y z : Str} (h : [x, y, z].eraseDups.length = 3) : x ≠ y ∧ x ≠ z ∧ y ≠ z := by
  refine ⟨fun e => ?_, fun e => ?_, fun e => ?_⟩
  · subst e
    by_cases q : z = x
    · subst q; simp [List.eraseDups_cons] at h
    · simp [List.eraseDups_cons, q] at h
  · subst e
    by_cases q : y = x
    · subst q; simp [List.eraseDups_cons] at h
    · simp [List.eraseDups_cons, q] at h
  · subst e
    by_cases q : y = x
    · subst q; simp [List.eraseDups_cons] at h
    · simp [List.eraseDups_cons, q] at h
theorem assign_ok {n : Nat} {sc : Scope} {tg v : Expr} {pos : Pos} {ct : Tg} {ce : E} (hg : swG sc tg v = true) (ht : cTg N sc tg = some ct) (he : cE cf N n sc v = some ce) (X : Cx) (W : WX) (C : CxS X cf N sc T W j k) : PS X (.Assign [tg] v pos) (tS X.K X.mg T W (.set ct ce)) := by
  have hv := (e_ok n cf sc v ce he X W j k C.c).1
  have hp := tg_ok (T := T) C.c.hN C.c.nd C.c.calm C.loc ht
  cases tg with
  | Name x px =>
    unfold cTg at ht
    simp only at ht
    split at ht
    · rename_i hx
      simp only [Option.map_eq_some_iff] at ht
      obtain ⟨i, hi, rfl⟩ := ht
      cases v with
      | ListComp elt gs sc2 cpos => exact set_lc hx hi he X W C
      | SetComp => cases n <;> simp [cE] at he
      | DictComp => cases n <;> simp [cE] at he
      | _ => exact s_set hv hp rfl rfl rfl
    · cases ht
  | Tuple ts kt pt =>
    cases v with
    | Tuple vs k2 pt2 =>
      have hg : (swP sc ts vs).isSome = true := hg
      cases hr : swP sc ts vs with
      | none => rw [hr] at hg; cases hg
      | some r =>
        have hw := swP_ok (k := kt) (k2 := k2) (p := pt) (p2 := pt2) C.c.hsc C.fk hr
        cases r with
        | none => exact s_set hv hp rfl hw rfl
        | some ns =>
          obtain ⟨e1, e2, e3, e4, e5⟩ := swP_inv hr
          obtain ⟨m, cs, rfl, he1, rfl⟩ := cE_tup he
          have pa := pa_ok (X := X) (T := T) (W := W) (fun _ _ h => cE_star h) (fun e c h => (e_ok m cf sc e c h X W j k C.c).1) he1
          rw [swN_eq] at e4 e5 e1
          generalize (ts.head?.map (·.pos.line)).getD 0 = ln at e4 e5 e1
          match ts, vs, e2, e3, hg, hr, hw, ht, hp, hv, e4, e5, e1, pa with
          | [t1, t2], [v1, v2], _, _, hg, hr, hw, ht, hp, hv, e4, e5, e1, pa =>
            obtain ⟨x, a1, a2, a3⟩ := fm_cons e4
            obtain ⟨y, b1, b2, b3⟩ := fm_cons a2
            rw [a3, b3, List.filterMap_nil] at e1 e5
            subst e1
            obtain ⟨px, rfl, lx⟩ := swF_inv a1
            obtain ⟨py, rfl, ly⟩ := swF_inv b1
            have hxy := dup2 (e5.trans rfl)
            unfold cTg at ht
            simp only at ht
            split at ht
            · simp only [Option.bind_eq_some_iff, Option.map_eq_some_iff] at ht
              obtain ⟨i, hi, j, hj, rfl⟩ := ht
              exact s_par C.c.calm (by rw [C.c.hN]; exact C.c.nd) (by rw [C.c.hN]; exact ixOf_ok hi) (by rw [C.c.hN]; exact ixOf_ok hj) (ix_ne hi hj hxy) (by rw [C.c.hsc]; exact lx) (by rw [C.c.hsc]; exact ly) pa hw rfl
            · cases ht
          | [t1, t2, t3], [v1, v2, v3], _, _, hg, hr, hw, ht, hp, hv, e4, e5, e1, pa =>
            obtain ⟨x, a1, a2, a3⟩ := fm_cons e4
            obtain ⟨y, b1, b2, b3⟩ := fm_cons a2
            obtain ⟨z, c1, c2, c3⟩ := fm_cons b2
            rw [a3, b3, c3, List.filterMap_nil] at e1 e5
            subst e1
            obtain ⟨px, rfl, lx⟩ := swF_inv a1
            obtain ⟨py, rfl, ly⟩ := swF_inv b1
            obtain ⟨pz, rfl, lz⟩ := swF_inv c1
            obtain ⟨hxy, hxz, hyz⟩ := dup3 (e5.trans rfl)
            unfold cTg at ht
            simp only at ht
            split at ht
            · simp only [Option.bind_eq_some_iff, Option.map_eq_some_iff] at ht
              obtain ⟨i, hi, j, hj, l, hl, rfl⟩ := ht
              exact s_par3 C.c.calm (by rw [C.c.hN]; exact C.c.nd) (by rw [C.c.hN]; exact ixOf_ok hi) (by rw [C.c.hN]; exact ixOf_ok hj) (by rw [C.c.hN]; exact ixOf_ok hl) (ix_ne hi hj hxy) (ix_ne hi hl hxz) (ix_ne hj hl hyz) (by rw [C.c.hsc]; exact lx) (by rw [C.c.hsc]; exact ly) (by rw [C.c.hsc]; exact lz) pa hw rfl
            · cases ht
          | [], _, _, e3, _, _, _, _, _, _, _, _, _, _ => simp at e3
          | [_], _, _, e3, _, _, _, _, _, _, _, _, _, _ => simp at e3
          | _ :: _ :: _ :: _ :: _, _, _, e3, _, _, _, _, _, _, _, _, _, _ => simp at e3
          | [_, _], [], e2, _, _, _, _, _, _, _, _, _, _, _ => simp at e2
          | [_, _], [_], e2, _, _, _, _, _, _, _, _, _, _, _ => simp at e2
          | [_, _], _ :: _ :: _ :: _, e2, _, _, _, _, _, _, _, _, _, _, _ => simp at e2
          | [_, _, _], [], e2, _, _, _, _, _, _, _, _, _, _, _ => simp at e2
          | [_, _, _], [_], e2, _, _, _, _, _, _, _, _, _, _, _ => simp at e2
          | [_, _, _], [_, _], e2, _, _, _, _, _, _, _, _, _, _, _ => simp at e2
          | [_, _, _], _ :: _ :: _ :: _ :: _, e2, _, _, _, _, _, _, _, _, _, _, _ => simp at e2
    | _ => exact s_set hv hp rfl rfl rfl
  | _ => simp [cTg] at ht
end
end Mi
set_option Elab.async false
set_option linter.all false
set_option maxRecDepth 100000
set_option maxHeartbeats 4000000
/-! Na: what is read off a statement is right; a def. -/
namespace Mi
open PySem PySem.Spec PyProof.Rows L2 RZ
section
variable {cf : Cf} {N : List Str} {T : List (Addr × Str)} {j k : Nat}
theorem sw_not {e : Expr} {l : Nat} {env : Env} (h : isComp e = false) : swapsWith e none l env = pure false := by
  cases e <;> first | rfl | (simp [isComp] at h)
theorem st_ok : ∀ (n : Nat) (sc : Scope) (st : Stmt) (c : St), cS cf N n sc st = some c → ∀ (X : Cx) (W : WX), CxS X cf N sc T W j k → PS X st (tS X.K X.mg T W c)
  | 0, _, _, _, h, _, _, _ => by simp [cS] at h
  | n + 1, sc, st, c, h, X, W, C => by
    have ihE := fun e c h => (e_ok (T := T) n cf sc e c h X W j k C.c)
    have ihS := fun s c h => st_ok n sc s c h X W C
    unfold cS at h
    split at h
    · cases h; exact s_pass
    · cases h; exact s_brk
    · cases h; exact s_cont
    · cases h; exact s_doc
    · split at h
      · rename_i x _ m p2 e p3 _ hg
        obtain ⟨hg1, hg2⟩ := hg
        have hg1 := of_decide_eq_true hg1
        subst hg1
        simp only [Option.bind_eq_some_iff] at h
        obtain ⟨i, hi, h⟩ := h
        split at h
        · simp only [Option.map_eq_some_iff] at h
          obtain ⟨ce, h1, rfl⟩ := h
          obtain ⟨v1, v2, v3, v4⟩ := slot_of hi
          exact s_app (by rw [C.c.hN]; exact v2) (by rw [C.c.hsc]; exact v1) v3 v4 (ihE _ _ h1).1 (star1 (cE_star h1)) hg2
        · cases h
      · cases h
    · split at h
      · cases h
      · rename_i hq
        simp only [Option.map_eq_some_iff] at h
        obtain ⟨ce, h1, rfl⟩ := h
        exact s_expr (ihE _ _ h1).1 (sw_not (by simpa using hq))
    · simp only [Option.map_eq_some_iff] at h
      obtain ⟨ce, h1, rfl⟩ := h
      exact s_ret (ihE _ _ h1).1
    · cases h; exact s_retn
    · split at h
      · cases h
      · rename_i hq
        simp only [Option.bind_eq_some_iff, Option.map_eq_some_iff] at h
        obtain ⟨cc, h1, ca, h2, cb, h3, rfl⟩ := h
        exact s_if ((ihE _ _ h1).2 (by simpa using hq)) (ss_ok ihS h2) (ss_ok ihS h3)
    · simp only [Option.bind_eq_some_iff, Option.map_eq_some_iff] at h
      obtain ⟨ct, h1, ci, h2, cb, h3, rfl⟩ := h
      obtain ⟨p1, p2⟩ := it_ok C.c (fun _ _ h => cE_star h) (fun e c h => (ihE e c h).1) h2
      exact s_for C.po C.c.calm p1 (tg_ok C.c.hN C.c.nd C.c.calm C.loc h1) (ss_ok ihS h3) p2
    · split at h
      · cases h
      · rename_i hq
        simp only [Option.bind_eq_some_iff, Option.map_eq_some_iff] at h
        obtain ⟨cc, h1, cb, h3, rfl⟩ := h
        exact s_while C.po ((ihE _ _ h1).2 (by simpa using hq)) (ss_ok ihS h3)
    · split at h
      · rename_i hg
        cases h
        obtain ⟨Cx, a1, a2, a3, a4⟩ := C.c.excs _ hg.2
        exact s_raise C.c.calm C.c.tk a1 (L2N.pmk_own PySem.F.excBase_ValueError a2 a1 a3 a4 (gl_X C.c hg.1) (gl_of hg.1).2.1)
      · cases h
    · split at h
      · cases h
      · rename_i o i p v _ hq
        simp only [not_or, Bool.not_eq_true] at hq
        simp only [Option.bind_eq_some_iff, Option.map_eq_some_iff] at h
        obtain ⟨cv, h1, co, h2, ci, h3, rfl⟩ := h
        refine s_put (ihE _ _ h1).1 (ihE _ _ h2).1 (ihE _ _ h3).1 ?_ rfl rfl (fun v => ?_) (by have := C.c.room.un; omega)
        · cases v <;> first | rfl | (simp [isComp] at hq)
        · cases i <;> first | rfl | (simp [isSl] at hq)
    · split at h
      · rename_i x px es pe _ hx
        simp only [Option.bind_eq_some_iff] at h
        obtain ⟨i, hi, h⟩ := h
        split at h
        · simp only [Option.map_eq_some_iff] at h
          obtain ⟨cs, h1, rfl⟩ := h
          exact s_lin (by rw [C.c.hN]; exact C.c.nd) (by rw [C.c.hN]; exact ixOf_ok hi) (C.loc x hx).1 (C.loc x hx).2 (pa_ok (fun _ _ h => cE_star h) (fun e c h => (ihE e c h).1) h1)
        · simp only [Option.map_eq_some_iff] at h
          obtain ⟨ce, h1, rfl⟩ := h
          exact s_set (ihE _ _ h1).1 (tg1 C.c.hN C.c.nd C.loc hx hi) rfl rfl rfl
      · cases h
    · split at h
      · rename_i hq
        simp only [Option.bind_eq_some_iff, Option.map_eq_some_iff] at h
        obtain ⟨ct, h1, ce, h2, rfl⟩ := h
        exact assign_ok hq h1 h2 X W C
      · cases h
    · cases h
/-- what the surroundings of a def hold -/
structure Wd (P : Program) (w : World) (K : PySem.W.Frag) (mg : Str → Option Value) (base : Heap) (T : List (Addr × Str)) (cf : Cf) (j : Nat) : Prop where
  fns : ∀ x a F, cf.fns.lookup x = some (a, F) → ∃ f fd ps, mg x = some (.ref f) ∧ PySem.W.keepIn K (.ref f) = true ∧ Binds K fd ps [] ∧ FnOk P w K mg base (L2N.CX P w) j f fd ps (spF K mg T a F)
  cons : ∀ x d, cf.cons.lookup x = some d → ∃ v u, mg x = some u ∧ RelV v u ∧ ∀ ι Z H, Rp K mg ι Z H d v
  bis : ∀ x ∈ biNames, mg x = none
  excs : ∀ c ∈ cf.excs, ∃ C, mg c = some (.ref C) ∧ PySem.W.excIn K C veB "ValueError.__new__" = true ∧ PySem.W.keepIn K (.ref C) = true ∧ ∀ X : Cx, X.prog = P → X.w = w → X.K = K → X.mg = mg → Raises X (.ref C)
  err : ∀ x nms, cf.err = some (x, nms) → ∃ g pg bg sg fd L cs CE, Mh.ErrD K mg x pg bg sg g fd L cs CE ∧ ∀ c lbl, nms.lookup c = some lbl → ∀ C, mg c = some (.ref C) → Mh.LblE K mg L cs CE C lbl
/-- the code object of a def that makes lambdas -/
def LamD (base : Heap) (mg : Str → Option Value) (T : List (Addr × Str)) (code : Value) (qual : Str) : Prop :=
  ∃ c P, code = .ref c ∧ LamX.TabB base mg c P ∧ (P, qual ++ ".<locals>." ++ "<lambda>") ∈ T ∧ ∀ p ∈ T, p.1 = P → p.2 = qual ++ ".<locals>." ++ "<lambda>"
theorem def_ok {P : Program} {w : World} {K : PySem.W.Frag} {mg : Str → Option Value} {base : Heap} {cf : Cf} {x qual : Str} {params : Arguments} {body : List Stmt} {scope : Scope} {f : Addr} {fd : FuncData} {ps : List Str} {j k n : Nat} {cb : Ss} {F : Sem}
    (wd : Wd P w K mg base T cf j) (FD : FunD K x qual params body scope [] [] f fd) (S : FnScope N ps scope) (hk : scope.kind = .function) (nd : N.Nodup) (hc : cSsF cf (cS cf N n scope) body = some cb) (hF : F = run ps.length N.length cb) (hjk : j ≤ k) (hl : cf.lam = true → j + 2 ≤ k ∧ LamD base mg T fd.code qual) :
    FnOk P w K mg base (L2N.CX P w) (k + 1) f fd ps (spF K mg T ps.length F) :=
  ok_run FD S hF fun X W e1 e2 e3 e4 e5 e6 e7 e8 hr tk po hfn hcd hq => by
    subst e1 e2 e3 e4 e5
    exact ss_ok (fun s c h => st_ok n scope s c h X W ⟨⟨e6, nd, e7, e8, hr, hjk, tk, wd.fns, wd.cons, wd.bis, fun c h => by
      obtain ⟨C, a1, a2, a3, a4⟩ := wd.excs c h
      exact ⟨C, a1, a2, a3, a4 X rfl rfl rfl rfl⟩, wd.err, fun z => by
      obtain ⟨a, c, P, b1, b2, b3, b4⟩ := hl z
      rw [hcd, hq]
      exact ⟨a, c, P, b1, b2, b3, b4⟩⟩, po, hfn, hk⟩) hc
end
end Mi
set_option Elab.async false
set_option linter.all false
set_option maxRecDepth 100000
set_option maxHeartbeats 4000000
/-! Hd: the head's facts for the small language; the law's end. -/
namespace Mi
open PySem PySem.Spec PyProof.Rows L2 RZ He
/-! ### constants -/
mutual
def valB (K : PySem.W.Frag) : D → Value → Bool
  | .non, u => relB .non u
  | .bl b, u => relB (.bl b) u
  | .int i, u => relB (.int i) u
  | .str x, u => relB (.str x) u
  | .ty n, u => relB (.ty n) u
  | .tup ds, .ref a => (match K.lookup a with
    | some ⟨.type c, _, .seq its _, _⟩ => decide (c = "tuple") && (decide (its.size ≤ sizeLine) && valsB K ds its.toList)
    | _ => false)
  | _, _ => false
def valsB (K : PySem.W.Frag) : List D → List Value → Bool
  | [], [] => true
  | d :: ds, u :: us => valB K d u && valsB K ds us
  | _, _ => false
end
mutual
theorem valB_ok {K : PySem.W.Frag} {mg : Str → Option Value} : ∀ {d : D} {u : Value}, valB K d u = true → ∃ v, RelV v u ∧ ∀ ι Z H, Rp K mg ι Z H d v
  | .non, u, h => ⟨.non, relB_ok h, fun _ _ _ => rfl⟩
  | .bl b, u, h => ⟨.bl b, relB_ok h, fun _ _ _ => rfl⟩
  | .int b, u, h => ⟨.int b, relB_ok h, fun _ _ _ => rfl⟩
  | .str b, u, h => ⟨.str b, relB_ok h, fun _ _ _ => rfl⟩
  | .ty b, u, h => ⟨.ty b, relB_ok h, fun _ _ _ => rfl⟩
  | .tup ds, .ref a, h => by
    unfold valB at h
    cases q : K.lookup a with
    | none => rw [q] at h; cases h
    | some o =>
      obtain ⟨oc, od, dt, osl⟩ := o
      rw [q] at h
      cases oc with
      | type c =>
        cases dt with
        | seq its n =>
          obtain ⟨h1, h2⟩ := ba (show (decide (c = "tuple") && (decide (its.size ≤ sizeLine) && valsB K ds its.toList)) = true from h)
          obtain ⟨h3, h4⟩ := ba h2
          obtain ⟨vs, r1, r2⟩ := valsB_ok (mg := mg) h4
          exact ⟨.ref a, rfl, fun ι Z H => ⟨a, vs, rfl, .inr ⟨_, its, n, q, congrArg Value.type (of_decide_eq_true h1), rfl, of_decide_eq_true h3, r1⟩, r2 ι Z H⟩⟩
        | _ => cases h
      | _ => cases dt <;> cases h
  | .tup _, .none, h => by cases h
  | .tup _, .bool _, h => by cases h
  | .tup _, .int _ _, h => by cases h
  | .tup _, .str _ _, h => by cases h
  | .tup _, .type _, h => by cases h
  | .tup _, .float _ _, h => by cases h
  | .tup _, .bytes _ _, h => by cases h
  | .tup _, .builtin _, h => by cases h
  | .tup _, .ellipsis, h => by cases h
  | .tup _, .notImplemented, h => by cases h
  | .lst _, u, h => by cases u <;> cases h
  | .obj _, u, h => by cases u <;> cases h
  | .scr _, u, h => by cases u <;> cases h
  | .glo _, u, h => by cases u <;> cases h
theorem valsB_ok {K : PySem.W.Frag} {mg : Str → Option Value} : ∀ {ds : List D} {us : List Value}, valsB K ds us = true → ∃ vs, Vals vs us ∧ ∀ ι Z H, Rps K mg ι Z H ds vs
  | [], [], _ => ⟨[], .nil, fun _ _ _ => rfl⟩
  | d :: ds, u :: us, h => by
    obtain ⟨h1, h2⟩ := ba (show (valB K d u && valsB K ds us) = true from h)
    obtain ⟨v, r1, r2⟩ := valB_ok (mg := mg) h1
    obtain ⟨vs, r3, r4⟩ := valsB_ok (mg := mg) h2
    exact ⟨v :: vs, .cons r1 r3, fun ι Z H => ⟨v, vs, rfl, r2 ι Z H, r4 ι Z H⟩⟩
  | [], _ :: _, h => by cases h
  | _ :: _, [], h => by cases h
end
def conB (K : PySem.W.Frag) (p : Str × D) : Bool := match PySem.W.nsIn K mainGlobals p.1 with
  | some (some u) => valB K p.2 u
  | _ => false
theorem conB_ok {K : PySem.W.Frag} {h : Heap} {mg : Str → Option Value} (X : K.In h) (G : h.Ns mainGlobals mg) {x : Str} {d : D} (c : conB K (x, d) = true) : ∃ v u, mg x = some u ∧ RelV v u ∧ ∀ ι Z H, Rp K mg ι Z H d v := by
  unfold conB at c
  cases q : PySem.W.nsIn K mainGlobals x with
  | none => simp only [q] at c; cases c
  | some r =>
    simp only [q] at c
    cases r with
    | none => cases c
    | some u =>
      obtain ⟨v, r1, r2⟩ := valB_ok (mg := mg) c
      exact ⟨v, u, PySem.W.mg_of X G q, r1, r2⟩
/-! ### names of exceptions -/
def excCB (K : PySem.W.Frag) (D : Addr) : Bool :=
  eqO (PySem.W.findIn K (.ref D) "__getattribute__") (some (some (.builtin "BaseException.__getattribute__"))) && (eqO (PySem.W.findIn K (.ref D) "__getattr__") (some none) && (decide (PySem.W.subIn K (.ref D) (.type "BaseException") = some true) && (PySem.W.hasDictIn K D &&
    (eqO (PySem.W.findIn K (.ref D) "__class__") (some (some (.builtin "object.__class__"))) && (eqO (PySem.W.specialIn K (.builtin "object.__class__") "__get__") (some (some (.builtin "getset_descriptor.__get__"))) &&
    (decide (PySem.W.takesIn K (.builtin "object.__class__") = some true) && decide (PySem.W.mroIn K D (.type "object") = some true)))))))
theorem excCB_ok {K : PySem.W.Frag} {D : Addr} (h : excCB K D = true) : ExcC K D := by
  unfold excCB at h
  obtain ⟨h1, h⟩ := ba h
  obtain ⟨h2, h⟩ := ba h
  obtain ⟨h3, h⟩ := ba h
  obtain ⟨h4, h⟩ := ba h
  obtain ⟨h5, h⟩ := ba h
  obtain ⟨h6, h⟩ := ba h
  obtain ⟨h7, h8⟩ := ba h
  exact ⟨eqO_ok h1, eqO_ok h2, of_decide_eq_true h3, h4, eqO_ok h5, eqO_ok h6, of_decide_eq_true h7, of_decide_eq_true h8⟩
def clsB (K : PySem.W.Frag) (D : Addr) (c : Str) (b : Bool) : Bool := if c = "ValueError" then eqO (PySem.W.nsIn K mainGlobals c) (some none) && decide (PySem.W.kitOne K (.ref D) (.type "ValueError") = some b)
  else eqO (PySem.W.nsIn K mainGlobals c) (some (some (.ref (ga K c)))) && decide (PySem.W.kitOne K (.ref D) (.ref (ga K c)) = some b)
theorem clsB_ok {K : PySem.W.Frag} {h : Heap} {mg : Str → Option Value} (X : K.In h) (G : h.Ns mainGlobals mg) {D : Addr} {c : Str} {b : Bool} (e : clsB K D c b = true) : Mh.ClsK K mg D c b := by
  unfold clsB at e
  split at e
  · rename_i q
    subst q
    obtain ⟨h1, h2⟩ := ba e
    exact .inr ⟨PySem.W.mg_none_of X G (eqO_ok h1), "ValueError", by decide +kernel, by decide +kernel, of_decide_eq_true h2⟩
  · obtain ⟨h1, h2⟩ := ba e
    exact .inl ⟨_, PySem.W.mg_of X G (eqO_ok h1), of_decide_eq_true h2⟩
def clssB (K : PySem.W.Frag) (D : Addr) : List Str → List Bool → Bool
  | [], [] => true
  | c :: cs, b :: bs => clsB K D c b && clssB K D cs bs
  | _, _ => false
theorem clssB_ok {K : PySem.W.Frag} {h : Heap} {mg : Str → Option Value} (X : K.In h) (G : h.Ns mainGlobals mg) {D : Addr} : ∀ {cs : List Str} {fl : List Bool}, clssB K D cs fl = true → Paired (Mh.ClsK K mg D) cs fl
  | [], [], _ => .nil
  | c :: cs, b :: bs, e => by
    obtain ⟨h1, h2⟩ := ba (show (clsB K D c b && clssB K D cs bs) = true from e)
    exact .cons (clsB_ok X G h1) (clssB_ok X G h2)
  | [], _ :: _, e => by cases e
  | _ :: _, [], e => by cases e
/-- the exception class named D: its flags, its label -/
def lblB (K : PySem.W.Frag) (L : Str) (cs : List Str) (CE D : Str) (fl : List Bool) : Bool :=
  decide (PySem.W.exmOne K (.ref (ga K D)) (.ref (ga K CE)) = some true) && (excCB K (ga K D) && (clssB K (ga K D) cs fl && (decide ((Txt.split L " ").length ≤ fl.length) && decide (fl.length ≤ sizeLine))))
theorem lblB_ok {K : PySem.W.Frag} {h : Heap} {mg : Str → Option Value} (X : K.In h) (G : h.Ns mainGlobals mg) {L : Str} {cs : List Str} {CE D : Str} {fl : List Bool} (e : lblB K L cs CE D fl = true) : Mh.LblE K mg L cs (ga K CE) (ga K D) (Mh.nameRes L fl) := by
  obtain ⟨h1, e⟩ := ba e
  obtain ⟨h2, e⟩ := ba e
  obtain ⟨h3, e⟩ := ba e
  obtain ⟨h4, h5⟩ := ba e
  exact ⟨of_decide_eq_true h1, excCB_ok h2, fl, clssB_ok X G h3, of_decide_eq_true h4, of_decide_eq_true h5, rfl⟩
/-! ### defs -/
/-- so many values go to the parameters ps -/
abbrev BindOk (x qual : Str) (params : Arguments) (body : List Stmt) (scope : Scope) (ps : List Str) : Prop := ∀ (kV doc pm : Value) (an : Option Addr) (cdv ct : Value) (us : List Value), us.length = ps.length → bindArgs (PySem.W.fnOf x qual params body scope .none kV doc pm an cdv ct) ⟨us, []⟩ = pure (ps.zip us)
def scB (N ps : List Str) (sc : Scope) : Bool :=
  (match sc.kind with | .function => true | _ => false) && (!sc.isCoroutine && (!sc.isGenerator && (decide N.Nodup && (decide (N.take ps.length = ps) && ((ps.all fun x => decide (sc.names.lookup x = some .local) || decide (sc.names.lookup x = some .cell)) && sc.names.all fun y => !decide (y.2 = .free))))))
theorem scB_ok {N ps : List Str} {sc : Scope} (h : scB N ps sc = true) : FnScope N ps sc ∧ sc.kind = .function := by
  unfold scB at h
  obtain ⟨h1, h⟩ := ba h
  obtain ⟨h2, h⟩ := ba h
  obtain ⟨h3, h⟩ := ba h
  obtain ⟨h4, h⟩ := ba h
  obtain ⟨h5, h⟩ := ba h
  obtain ⟨h6, h7⟩ := ba h
  have hk : sc.kind = .function := by
    split at h1
    · assumption
    · cases h1
  refine ⟨⟨hk, by simpa using h2, by simpa using h3, of_decide_eq_true h4, of_decide_eq_true h5, fun x hx => ?_, fun y hy e => ?_⟩, hk⟩
  · have := List.all_eq_true.mp h6 x hx
    simp only [Bool.or_eq_true, decide_eq_true_eq] at this
    exact this
  · have := List.all_eq_true.mp h7 y hy
    simp [e] at this
/-- the def named x, the statement st -/
abbrev dfd (x : Str) (st : Stmt) : DefD := ⟨(x, none), x, x, defArgs st, defBody st, defScope st, [], []⟩
def Cf.at (cf : Cf) (lin : List Nat) (ml : List (Nat × Nat)) (still : List (Nat × List Nat)) (lam : Bool) : Cf := { cf with lin := lin, ml := ml, still := still, lam := lam }
section
variable {P : Program} {w : World} {K : PySem.W.Frag} {mg : Str → Option Value} {base h : Heap} {T : List (Addr × Str)} {cf : Cf} {fa : List Fa} {fn : List DefD}
theorem lookup_mem2 {α : Type} {x : Str} {d : α} : ∀ {l : List (Str × α)}, l.lookup x = some d → (x, d) ∈ l
  | [], h => by cases h
  | (y, u) :: r, h => by
    have h2 : (match x == y with | true => some u | false => r.lookup x) = some d := h
    cases q : (x == y) with
    | true =>
      rw [q] at h2
      cases h2
      rw [beq_iff_eq.mp q]
      exact List.mem_cons_self
    | false =>
      rw [q] at h2
      exact List.mem_cons_of_mem _ (lookup_mem2 h2)
theorem nodup_map {α β : Type} {f : α → β} {x y : α} : ∀ {l : List α}, (l.map f).Nodup → x ∈ l → y ∈ l → f x = f y → x = y
  | [], _, hx, _, _ => by cases hx
  | a :: l, nd, hx, hy, e => by
    rw [List.map_cons, List.nodup_cons] at nd
    have key : ∀ {z}, z ∈ l → f a ≠ f z := fun {z} hz q => nd.1 (List.mem_map.mpr ⟨z, hz, q.symm⟩)
    rcases List.mem_cons.mp hx with h1 | h1
    · rcases List.mem_cons.mp hy with h2 | h2
      · rw [h1, h2]
      · rw [h1] at e; exact absurd e (key h2)
    · rcases List.mem_cons.mp hy with h2 | h2
      · rw [h2] at e; exact absurd e.symm (key h1)
      · exact nodup_map nd.2 h1 h2 e
/-- what a def promises, and that it can be called -/
def Kn (P : Program) (w : World) (K : PySem.W.Frag) (mg : Str → Option Value) (base : Heap) (T : List (Addr × Str)) (j : Nat) (x : Str) (a : Nat) (F : Sem) : Prop :=
  ∃ f fd ps, mg x = some (.ref f) ∧ PySem.W.keepIn K (.ref f) = true ∧ Binds K fd ps [] ∧ FnOk P w K mg base (L2N.CX P w) j f fd ps (spF K mg T a F)
theorem Kn.mono {j k : Nat} {x : Str} {a : Nat} {F : Sem} (h : Kn P w K mg base T j x a F) (hk : j ≤ k) : Kn P w K mg base T k x a F := by
  obtain ⟨f, fd, ps, h1, h2, h3, h4⟩ := h
  exact ⟨f, fd, ps, h1, h2, h3, h4.mono hk⟩
theorem Wd.at {j : Nat} (wd : Wd P w K mg base T cf j) (lin : List Nat) (ml : List (Nat × Nat)) (still : List (Nat × List Nat)) (lam : Bool) : Wd P w K mg base T (cf.at lin ml still lam) j := ⟨wd.fns, wd.cons, wd.bis, wd.excs, wd.err⟩
theorem Wd.add {j k : Nat} (wd : Wd P w K mg base T cf j) (hk : j ≤ k) {x : Str} {a : Nat} {F : Sem} (h : Kn P w K mg base T k x a F) : Wd P w K mg base T { cf with fns := (x, a, F) :: cf.fns } k := by
  refine ⟨fun y b G e => ?_, wd.cons, wd.bis, wd.excs, wd.err⟩
  have e : (match y == x with | true => some (a, F) | false => cf.fns.lookup y) = some (b, G) := e
  cases q : (y == x) with
  | true =>
    rw [q] at e
    cases e
    rw [beq_iff_eq.mp q]
    exact h
  | false =>
    rw [q] at e
    obtain ⟨f, fd, ps, h1, h2, h3, h4⟩ := wd.fns y b G e
    exact ⟨f, fd, ps, h1, h2, h3, h4.mono hk⟩
/-- where lambdas are made, by the code object of K -/
theorem kn_of {j n : Nat} (wd : Wd P w K mg base T cf j) (X : K.In h) (G : h.Ns mainGlobals mg) (c : SaysD fa fn K) {x : Str} {st : Stmt} (hd : dfd x st ∈ fn) (hg : Fa.glo x ∈ fa) {ps N : List Str} {lin : List Nat} {ml : List (Nat × Nat)} {still : List (Nat × List Nat)} {lam : Bool} {cb : Ss} {F : Sem}
    (ha : BindOk x x (defArgs st) (defBody st) (defScope st) ps) (hs : scB N ps (defScope st) = true) (hc : cSsF (cf.at lin ml still lam) (cS (cf.at lin ml still lam) N n (defScope st)) (defBody st) = some cb) (hF : F = run ps.length N.length cb)
    (hl : lam = true → ∀ fd, FunD K x x (defArgs st) (defBody st) (defScope st) [] [] (ga K x) fd → LamD base mg T fd.code x) : Kn P w K mg base T (j + 3) x ps.length F := by
  obtain ⟨fd, FD⟩ := c.defs hd
  have FD : FunD K x x (defArgs st) (defBody st) (defScope st) [] [] (ga K x) fd := FD
  obtain ⟨S, hk⟩ := scB_ok hs
  exact ⟨ga K x, fd, ps, He.glo_ok X G (c.facts hg), FD.kp, FD.bindsN ha, def_ok (k := j + 2) (wd.at lin ml still lam) FD S hk S.nd hc hF (by omega) (fun z => ⟨Nat.le_refl _, hl z fd FD⟩)⟩
/-- the law's own def -/
theorem kn_law {j n : Nat} {base : Heap} (wd : Wd P w K mg base T cf j) (c : SaysD fa fn K) {x : Str} {st : Stmt} {fd : FuncData} (FD : FunD K x x (defArgs st) (defBody st) (defScope st) [] [] (ga K x) fd) {ps N : List Str} {lin : List Nat} {ml : List (Nat × Nat)} {still : List (Nat × List Nat)} {lam : Bool} {cb : Ss} {F : Sem}
    (hs : scB N ps (defScope st) = true) (hc : cSsF (cf.at lin ml still lam) (cS (cf.at lin ml still lam) N n (defScope st)) (defBody st) = some cb) (hF : F = run ps.length N.length cb) (hl : lam = true → LamD base mg T fd.code x) : FnOk P w K mg base (L2N.CX P w) (j + 3) (ga K x) fd ps (spF K mg T ps.length F) := by
  obtain ⟨S, hk⟩ := scB_ok hs
  exact def_ok (k := j + 2) (wd.at lin ml still lam) FD S hk S.nd hc hF (by omega) (fun z => ⟨Nat.le_refl _, hl z⟩)
/-- the defs that name exceptions: error's statement, names' statement, what they say -/
structure ErrI (fa : List Fa) (fn : List DefD) (K : PySem.W.Frag) (cf : Cf) where
  x : Str
  nx : Str
  sx : Stmt
  sn : Stmt
  CE : Str
  L : Str
  cs : List Str
  lbl : List (Str × List Bool)
  hx : dfd x sx ∈ fn
  hn : dfd nx sn ∈ fn
  gx : Fa.glo x ∈ fa
  gn : Fa.glo nx ∈ fa
  gC : Fa.glo CE ∈ fa
  gl : ∀ p ∈ lbl, Fa.glo p.1 ∈ fa
  sc : scB Mh.NE Mh.cL (defScope sx) = true
  sc2 : scB Mh.NN Mh.eL (defScope sn) = true
  bx : BindOk x x (defArgs sx) (defBody sx) (defScope sx) Mh.cL
  bn : BindOk nx nx (defArgs sn) (defBody sn) (defScope sn) Mh.eL
  rx : Mh.errOf (defScope sx) (defBody sx) = some (CE, nx)
  rn : Mh.namesOf (defScope sn) (defBody sn) = some (L, cs)
  al : cs.all (glB (defScope sn)) = true
  z1 : L.length + 2 ≤ sizeLine
  z2 : ((Txt.split L " ").map (·.length)).sum + (Txt.split L " ").length * (" " : Str).length ≤ 16777216
  m1 : Fa.free "isinstance" ∈ fa
  m2 : Fa.free "zip" ∈ fa
  ok : (lbl.all fun p => lblB K L cs CE p.1 p.2) = true
  eq : cf.err = some (x, lbl.map fun p => (p.1, Mh.nameRes L p.2))
theorem look_map {α β : Type} [BEq α] [LawfulBEq α] {f : α × β → γ} {l : List (α × β)} {c : α} {y : γ} (h : (l.map fun p => (p.1, f p)).lookup c = some y) : ∃ b, (c, b) ∈ l ∧ y = f (c, b) := by
  induction l with
  | nil => cases h
  | cons p l ih =>
    obtain ⟨a, b⟩ := p
    have h : (match c == a with | true => some (f (a, b)) | false => (l.map fun p => (p.1, f p)).lookup c) = some y := h
    cases q : (c == a) with
    | true =>
      rw [q] at h
      cases h
      have := beq_iff_eq.mp q
      subst this
      exact ⟨b, List.mem_cons_self, rfl⟩
    | false =>
      rw [q] at h
      obtain ⟨b', h1, h2⟩ := ih h
      exact ⟨b', List.mem_cons_of_mem _ h1, h2⟩
theorem ErrI.wd (X : K.In h) (G : h.Ns mainGlobals mg) (c : SaysD fa fn K) (I : ErrI fa fn K cf) : ∀ x nms, cf.err = some (x, nms) → ∃ g pg bg sg fd L cs CE, Mh.ErrD K mg x pg bg sg g fd L cs CE ∧ ∀ c lbl, nms.lookup c = some lbl → ∀ C, mg c = some (.ref C) → Mh.LblE K mg L cs CE C lbl := by
  intro x nms e
  rw [I.eq] at e
  cases e
  obtain ⟨fd, FD⟩ := c.defs I.hx
  obtain ⟨fd2, FD2⟩ := c.defs I.hn
  have FD : FunD K I.x I.x (defArgs I.sx) (defBody I.sx) (defScope I.sx) [] [] (ga K I.x) fd := FD
  have FD2 : FunD K I.nx I.nx (defArgs I.sn) (defBody I.sn) (defScope I.sn) [] [] (ga K I.nx) fd2 := FD2
  refine ⟨ga K I.x, _, _, _, fd, I.L, I.cs, ga K I.CE, ⟨FD, (scB_ok I.sc).1, ⟨I.CE, I.nx, I.rx, He.glo_ok X G (c.facts I.gC), _, _, _, _, _, _, ⟨FD2, (scB_ok I.sc2).1, I.rn, I.al, I.z1, I.z2, He.free_ok X G (c.facts I.m1), He.free_ok X G (c.facts I.m2), FD2.bindsN I.bn, He.glo_ok X G (c.facts I.gn)⟩⟩, FD.bindsN I.bx, He.glo_ok X G (c.facts I.gx)⟩, fun d lbl hl C hC => ?_⟩
  obtain ⟨fl, hm, rfl⟩ := look_map (f := fun p : Str × List Bool => Mh.nameRes I.L p.2) hl
  have := hC.symm.trans (He.glo_ok X G (c.facts (I.gl _ hm)))
  cases this
  exact lblB_ok X G (List.all_eq_true.mp I.ok _ hm)
theorem wd0 (X : K.In h) (G : h.Ns mainGlobals mg) (c : SaysD fa fn K) (hfn : cf.fns = []) (hb : ∀ x ∈ biNames, Fa.free x ∈ fa) (hc : (cf.cons.all fun p => conB K p) = true) (he : ∀ x ∈ cf.excs, Fa.exc x ∈ fa ∧ Fa.glo x ∈ fa)
    (hr : ∀ x nms, cf.err = some (x, nms) → ∃ g pg bg sg fd L cs CE, Mh.ErrD K mg x pg bg sg g fd L cs CE ∧ ∀ c lbl, nms.lookup c = some lbl → ∀ C, mg c = some (.ref C) → Mh.LblE K mg L cs CE C lbl) : Wd P w K mg base T cf 0 := by
  refine ⟨fun x a F e => (by rw [hfn] at e; cases e), fun x d e => ?_, fun x hx => He.free_ok X G (c.facts (hb x hx)), fun x hx => ?_, hr⟩
  · exact conB_ok X G (List.all_eq_true.mp hc _ (lookup_mem2 e))
  · obtain ⟨h1, h2, h3, h4⟩ := He.exc_ok (c.facts (he x hx).1)
    refine ⟨ga K x, He.glo_ok X G (c.facts (he x hx).2), h1, h2, fun Y e1 e2 e3 e4 => ?_⟩
    subst e3
    exact raises_own h3 h4
/-! ### the end -/
/-- the tables of the defs tf -/
def tabL (K : PySem.W.Frag) (tf : List Str) : List (Addr × Str) := tf.map fun x => ((cT K (x, none)).2, x ++ ".<locals>." ++ "<lambda>")
theorem lamD_of {tf : List Str} {x : Str} {st : Stmt} (hx : x ∈ tf) (nd : (tf.map fun x => (cT K (x, none)).2).Nodup) (hT : ∀ y ∈ tf, LamX.TabB base mg (cT K (y, none)).1 (cT K (y, none)).2) (fd : FuncData) (FD : FunD K x x (defArgs st) (defBody st) (defScope st) [] [] (ga K x) fd) : LamD base mg (tabL K tf) fd.code x := by
  obtain ⟨oc, od, dV, kV, doc, pm, an, cdv, ct, osl, rfl, lk, hcd, _, _⟩ := FD.ex
  obtain ⟨cc, hcc⟩ := codeIn_ref hcd
  subst hcc
  have e : codeOf K (x, none) = cc := codeOf_eq (p := (x, none)) lk rfl
  refine ⟨cc, (cT K (x, none)).2, rfl, ?_, List.mem_map.mpr ⟨x, hx, rfl⟩, fun p hp hq => ?_⟩
  · have := hT x hx
    rw [show (cT K (x, none)).1 = cc from e] at this
    exact this
  · obtain ⟨y, hy, rfl⟩ := List.mem_map.mp hp
    have : y = x := nodup_map nd hy hx hq
    rw [this]
end
/-- the law's end -/
theorem walk_X {l : PySem.W.OpenLaw} {n k : Nat} {q : Program} {loose : List Str} {XP : (Str → Option Value) → Heap → Prop} {d : DefRec} {x lx : Str} {dn : Nat} {fa : List Fa} {fn : List DefD} {tf : List Str} {ex : PySem.W.Frag → Bool} {F : Sem}
    (hn : l.most = some n) (hn2 : n ≤ sizeLine) (hdf : d.params.defaults = []) (hd : d.name = lx) (hr : Room k callerA)
    (hK : ∀ (w : World) (K : PySem.W.Frag) (h : Heap) (mg : Str → Option Value), K.In h → h.Ns mainGlobals mg → SaysD fa fn K → ex K = true →
      ∃ fd, mg lx = some (.ref (ga K lx)) ∧ (∀ (s : Shared) (u : Value), BindsTo s fd ⟨[u], []⟩ [(x, u)]) ∧ ∀ base : Heap, (∀ y ∈ tf, LamX.TabB base mg (cT K (y, none)).1 (cT K (y, none)).2) → FnOk l.prog w K mg base (L2N.CX l.prog w) k (ga K lx) fd [x] (spF K mg (tabL K tf) 1 F))
    (hF : ∀ ns : List Int, ns.length ≤ n → (∀ z ∈ ns, Builtin.Int.intBits z ≤ 1048576) → ∃ μ, F [.scr ns] [] = some (.ok (.bl true), μ)) :
    PySem.W.WalkO q loose XP (hookX dn fa fn [] (tf.map fun x => (x, none)) ex).says l.row.toRowW d [] (fun f vs => PySem.call f vs) := by
  refine Att.attach_callB hn hdf fun w s₀ s₁ mg mb f o pm cd doc a vs ns G Y ho hd' hcd hmg hobj hints hlen hbits hg => ?_
  obtain ⟨K, KX, S⟩ := Y
  have hc : SaysD fa fn K := S.t.d
  have mem : ∀ y ∈ tf, ((y, none) : Defn) ∈ tf.map fun x => ((x, none) : Defn) := fun y hy => List.mem_map.mpr ⟨y, hy, rfl⟩
  have CH : ∀ p ∈ tf.map (fun x => cT K (x, none)), PySem.W.CodeHd s₁.heap p.1 p.2 := fun p hp => by
    obtain ⟨y, hy, rfl⟩ := List.mem_map.mp hp
    exact PySem.W.codeHd_of_K KX (S.hd _ (mem y hy))
  have hlx : mg lx = some (.ref f) := by rw [← hd]; exact hmg
  obtain ⟨fd, e1, hb, hok⟩ := hK w K s₁.heap mg KX G.T.g hc S.more
  have e2 : f = ga K lx := by
    have := hlx.symm.trans e1
    cases this
    rfl
  rw [e2]
  refine LamX.law_callTs (CX := L2N.CX l.prog w) (sp := spF K mg (tabL K tf) 1 F) (cs := tf.map fun x => cT K (x, none)) KX G.T.g G.T.b G.T.builtins G.T.nolimit hg (fun p hp => ?_) (fun p hp => ?_) CH G.T.bmain hobj hints (Nat.le_trans hlen hn2) hr (fun base kb nb TB => ?_) hb (fun H hH hS => ?_) (fun H e s' z => ?_)
  · obtain ⟨y, hy, rfl⟩ := List.mem_map.mp hp
    exact S.empty _ (mem y hy)
  · obtain ⟨y, hy, rfl⟩ := List.mem_map.mp hp
    exact S.out _ (mem y hy)
  · exact hok base fun y hy => TB _ (List.mem_map.mpr ⟨y, hy, rfl⟩)
  · obtain ⟨μ, e⟩ := hF _ hlen hbits
    refine ⟨rfl, [], [], [], [.scr ns], ⟨.nil, rfl, fun n m z => (by simp at z), fun z hz => (by cases hz), fun p hp => ?_⟩, ⟨_, _, rfl, ⟨a, rfl, ?_⟩, rfl⟩, ?_⟩
    · obtain ⟨y, hy, rfl⟩ := List.mem_map.mp hp
      exact LamX.TabS.nil (hH _ (List.mem_map.mpr ⟨y, hy, rfl⟩))
    · rcases hS with hS | hS
      · exact .inl ⟨hS, by simp, by simp⟩
      · exact .inr hS
    · rw [e]
      exact fun ι' v H' _ _ r => r
  · obtain ⟨_, _, _, _, _, _, _, _, _, _, _, _, z⟩ := z
    exact z
end Mi
set_option Elab.async false
set_option linter.all false
set_option maxRecDepth 100000
/-! Pg: what the defs of the package and of the laws read as, each once (made by wip/genpg.py). -/
namespace Pg
open PySem PySem.Spec L2 Mi
def N_is_whole : List Str := [("value" : Str), ("low" : Str), ("high" : Str)]
def B_is_whole : Ss := (.cons (.ret (.and_ (.bi .isi (.cons (.var 0) (.cons (.con (.ty "int")) .nil))) (.and_ (.not_ (.bi .isi (.cons (.var 0) (.cons (.con (.ty "bool")) .nil)))) (.chain (.cm .le) (.cm .le) (.var 1) (.var 0) (.var 2))))) .nil)
def Fis_whole : Sem := run 3 3 B_is_whole
def N_is_word : List Str := [("value" : Str), ("words" : Str)]
def B_is_word : Ss := (.cons (.ret (.and_ (.bi .isi (.cons (.var 0) (.cons (.con (.ty "str")) .nil))) (.op .in_ (.var 0) (.var 1)))) .nil)
def Fis_word : Sem := run 2 2 B_is_word
def N_is_card : List Str := [("value" : Str)]
def B_is_card : Ss := (.cons (.ite (.or_ (.not_ (.bi .isi (.cons (.var 0) (.cons (.con (.ty "tuple")) .nil)))) (.or_ (.op .ne (.bi .len (.cons (.var 0) .nil)) (.con (.int (5)))) (.not_ (.bi .isi (.cons (.idx (.var 0) (.con (.int (2)))) (.cons (.con (.ty "bool")) .nil)))))) (.cons (.ret (.con (.bl false))) .nil) .nil) (.cons (.ite (.or_ (.not_ (.call Fis_whole (.cons (.idx (.var 0) (.con (.int (0)))) (.cons (.con (.int (0))) (.cons (.op .pow (.con (.int (10))) (.con (.int (9)))) .nil))))) (.not_ (.call Fis_whole (.cons (.idx (.var 0) (.con (.int (1)))) (.cons (.con (.int (0))) (.cons (.op .pow (.con (.int (10))) (.con (.int (9)))) .nil)))))) (.cons (.ret (.con (.bl false))) .nil) .nil) (.cons (.ret (.and_ (.call Fis_whole (.cons (.idx (.var 0) (.con (.int (3)))) (.cons (.neg (.con (.int (1000000000000000000000000000000)))) (.cons (.con (.int (1000000000000000000000000000000))) .nil)))) (.call Fis_whole (.cons (.idx (.var 0) (.con (.int (4)))) (.cons (.neg (.con (.int (1000000000000000000000000000000)))) (.cons (.con (.int (1000000000000000000000000000000))) .nil)))))) .nil)))
def Fis_card : Sem := run 1 1 B_is_card
def N_is_deck : List Str := [("value" : Str), ("at" : Str), ("card" : Str)]
def B_is_deck : Ss := (.cons (.ite (.or_ (.not_ (.bi .isi (.cons (.var 0) (.cons (.con (.ty "tuple")) .nil)))) (.or_ (.op (.cm .gt) (.bi .len (.cons (.var 0) .nil)) (.con (.int (40)))) (.op .ne (.comp (.var 2) (.name 2) (.seq (.var 0)) (.not_ (.call Fis_card (.cons (.var 2) .nil))) [2]) (.lst .nil)))) (.cons (.ret (.con (.bl false))) .nil) .nil) (.cons (.ret (.op .eq (.comp (.var 1) (.name 1) (.rng (.op .sub (.bi .len (.cons (.var 0) .nil)) (.con (.int (1))))) (.op (.cm .gt) (.slc (.idx (.var 0) (.var 1)) .no (.yes (.con (.int (2))))) (.slc (.idx (.var 0) (.op .add (.var 1) (.con (.int (1))))) .no (.yes (.con (.int (2)))))) [1]) (.lst .nil))) .nil))
def Fis_deck : Sem := run 1 3 B_is_deck
def N_is_source : List Str := [("board" : Str), ("when" : Str), ("value" : Str)]
def B_is_source : Ss := (.cons (.ite (.bi .isi (.cons (.var 2) (.cons (.con (.ty "str")) .nil))) (.cons (.ret (.and_ (.op .in_ (.var 2) (.tup (.cons (.con (.str "x")) (.cons (.con (.str "y")) .nil)))) (.op .nin (.var 1) (.tup (.cons (.con (.str "minor")) (.cons (.con (.str "major")) .nil)))))) .nil) .nil) (.cons (.ret (.call Fis_whole (.cons (.var 2) (.cons (.con (.int (0))) (.cons (.op .sub (.idx (.var 0) (.con (.int (0)))) (.con (.int (1)))) .nil))))) .nil))
def Fis_source : Sem := run 3 3 B_is_source
def N_is_printing : List Str := [("board" : Str), ("when" : Str), ("value" : Str), ("item" : Str)]
def B_is_printing : Ss := (.cons (.ite (.or_ (.not_ (.bi .isi (.cons (.var 2) (.cons (.con (.ty "tuple")) .nil)))) (.not_ (.chain (.cm .le) (.cm .le) (.con (.int (1))) (.bi .len (.cons (.var 2) .nil)) (.con (.int (3)))))) (.cons (.ret (.con (.bl false))) .nil) .nil) (.cons (.ret (.op .eq (.comp (.var 3) (.name 3) (.seq (.var 2)) (.not_ (.call Fis_source (.cons (.var 0) (.cons (.var 1) (.cons (.var 3) .nil))))) [3]) (.lst .nil))) .nil))
def Fis_printing : Sem := run 3 4 B_is_printing
def N_is_action : List Str := [("board" : Str), ("when" : Str), ("value" : Str)]
def B_is_action : Ss := (.cons (.ite (.or_ (.not_ (.bi .isi (.cons (.var 2) (.cons (.con (.ty "tuple")) .nil)))) (.or_ (.op .eq (.var 2) (.tup .nil)) (.not_ (.bi .isi (.cons (.idx (.var 2) (.con (.int (0)))) (.cons (.con (.ty "str")) .nil)))))) (.cons (.ret (.con (.bl false))) .nil) .nil) (.cons (.ite (.op .in_ (.idx (.var 2) (.con (.int (0)))) (.tup (.cons (.con (.str "add")) (.cons (.con (.str "less")) .nil)))) (.cons (.ret (.and_ (.op .eq (.bi .len (.cons (.var 2) .nil)) (.con (.int (3)))) (.and_ (.call Fis_source (.cons (.var 0) (.cons (.var 1) (.cons (.idx (.var 2) (.con (.int (1)))) .nil)))) (.call Fis_whole (.cons (.idx (.var 2) (.con (.int (2)))) (.cons (.con (.int (0))) (.cons (.op .sub (.idx (.var 0) (.con (.int (0)))) (.con (.int (1)))) .nil))))))) .nil) .nil) (.cons (.ite (.op .eq (.idx (.var 2) (.con (.int (0)))) (.con (.str "clear"))) (.cons (.ret (.and_ (.op .eq (.bi .len (.cons (.var 2) .nil)) (.con (.int (2)))) (.call Fis_whole (.cons (.idx (.var 2) (.con (.int (1)))) (.cons (.con (.int (0))) (.cons (.op .sub (.idx (.var 0) (.con (.int (0)))) (.con (.int (1)))) .nil)))))) .nil) .nil) (.cons (.ite (.op .eq (.idx (.var 2) (.con (.int (0)))) (.con (.str "set"))) (.cons (.ret (.and_ (.op .eq (.bi .len (.cons (.var 2) .nil)) (.con (.int (3)))) (.and_ (.call Fis_whole (.cons (.idx (.var 2) (.con (.int (1)))) (.cons (.con (.int (0))) (.cons (.op .sub (.idx (.var 0) (.con (.int (1)))) (.con (.int (1)))) .nil)))) (.bi .isi (.cons (.idx (.var 2) (.con (.int (2)))) (.cons (.con (.ty "bool")) .nil)))))) .nil) .nil) (.cons (.ret (.and_ (.op .eq (.idx (.var 2) (.con (.int (0)))) (.con (.str "print"))) (.and_ (.op .eq (.bi .len (.cons (.var 2) .nil)) (.con (.int (2)))) (.call Fis_printing (.cons (.var 0) (.cons (.var 1) (.cons (.idx (.var 2) (.con (.int (1)))) .nil))))))) .nil)))))
def Fis_action : Sem := run 3 3 B_is_action
def N_is_wire : List Str := [("board" : Str), ("value" : Str)]
def B_is_wire : Ss := (.cons (.ite (.or_ (.not_ (.bi .isi (.cons (.var 1) (.cons (.con (.ty "tuple")) .nil)))) (.or_ (.op .ne (.bi .len (.cons (.var 1) .nil)) (.con (.int (3)))) (.not_ (.call Fis_word (.cons (.idx (.var 1) (.con (.int (0)))) (.cons (.con (.tup [(.str "card"), (.str "hole"), (.str "plain"), (.str "minor"), (.str "major")])) .nil)))))) (.cons (.ret (.con (.bl false))) .nil) .nil) (.cons (.ite (.op .isn (.idx (.var 1) (.con (.int (1)))) (.con .non)) (.cons (.ite (.or_ (.not_ (.bi .isi (.cons (.idx (.var 1) (.con (.int (1)))) (.cons (.con (.ty "tuple")) .nil)))) (.or_ (.op .ne (.bi .len (.cons (.idx (.var 1) (.con (.int (1)))) .nil)) (.con (.int (2)))) (.not_ (.bi .isi (.cons (.idx (.idx (.var 1) (.con (.int (1)))) (.con (.int (1)))) (.cons (.con (.ty "bool")) .nil)))))) (.cons (.ret (.con (.bl false))) .nil) .nil) (.cons (.ite (.not_ (.call Fis_whole (.cons (.idx (.idx (.var 1) (.con (.int (1)))) (.con (.int (0)))) (.cons (.con (.int (0))) (.cons (.op .sub (.idx (.var 0) (.con (.int (1)))) (.con (.int (1)))) .nil))))) (.cons (.ret (.con (.bl false))) .nil) .nil) .nil)) .nil) (.cons (.ret (.call Fis_action (.cons (.var 0) (.cons (.idx (.var 1) (.con (.int (0)))) (.cons (.idx (.var 1) (.con (.int (2)))) .nil))))) .nil)))
def Fis_wire : Sem := run 2 2 B_is_wire
def N_is_board : List Str := [("value" : Str), ("wire" : Str)]
def B_is_board : Ss := (.cons (.ite (.or_ (.not_ (.bi .isi (.cons (.var 0) (.cons (.con (.ty "tuple")) .nil)))) (.op .ne (.bi .len (.cons (.var 0) .nil)) (.con (.int (3))))) (.cons (.ret (.con (.bl false))) .nil) .nil) (.cons (.ite (.or_ (.not_ (.call Fis_whole (.cons (.idx (.var 0) (.con (.int (0)))) (.cons (.con (.int (0))) (.cons (.con (.int (3))) .nil))))) (.not_ (.call Fis_whole (.cons (.idx (.var 0) (.con (.int (1)))) (.cons (.con (.int (0))) (.cons (.con (.int (2))) .nil)))))) (.cons (.ret (.con (.bl false))) .nil) .nil) (.cons (.ite (.or_ (.not_ (.bi .isi (.cons (.idx (.var 0) (.con (.int (2)))) (.cons (.con (.ty "tuple")) .nil)))) (.op (.cm .gt) (.bi .len (.cons (.idx (.var 0) (.con (.int (2)))) .nil)) (.con (.int (8))))) (.cons (.ret (.con (.bl false))) .nil) .nil) (.cons (.ret (.op .eq (.comp (.var 1) (.name 1) (.seq (.idx (.var 0) (.con (.int (2))))) (.not_ (.call Fis_wire (.cons (.var 0) (.cons (.var 1) .nil)))) [1]) (.lst .nil))) .nil))))
def Fis_board : Sem := run 1 2 B_is_board
def N_is_row : List Str := [("value" : Str), ("board" : Str)]
def B_is_row : Ss := (.cons (.ite (.or_ (.not_ (.bi .isi (.cons (.var 0) (.cons (.con (.ty "tuple")) .nil)))) (.op .nin (.bi .len (.cons (.var 0) .nil)) (.tup (.cons (.con (.int (1))) (.cons (.con (.int (2))) .nil))))) (.cons (.ret (.con (.bl false))) .nil) .nil) (.cons (.ite (.op .ne (.comp (.var 1) (.name 1) (.seq (.var 0)) (.not_ (.call Fis_board (.cons (.var 1) .nil))) [1]) (.lst .nil)) (.cons (.ret (.con (.bl false))) .nil) .nil) (.cons (.ret (.op (.cm .le) (.bi .sum (.cons (.comp (.bi .len (.cons (.idx (.var 1) (.con (.int (2)))) .nil)) (.name 1) (.seq (.var 0)) (.con (.bl true)) [1]) .nil)) (.con (.int (8))))) .nil)))
def Fis_row : Sem := run 1 2 B_is_row
def N_is_moment : List Str := [("value" : Str)]
def B_is_moment : Ss := (.cons (.ret (.and_ (.bi .isi (.cons (.var 0) (.cons (.con (.ty "tuple")) .nil))) (.and_ (.op .eq (.bi .len (.cons (.var 0) .nil)) (.con (.int (2)))) (.and_ (.call Fis_word (.cons (.idx (.var 0) (.con (.int (0)))) (.cons (.con (.tup [(.str "none"), (.str "minor"), (.str "major")])) .nil))) (.bi .isi (.cons (.idx (.var 0) (.con (.int (1)))) (.cons (.con (.ty "bool")) .nil))))))) .nil)
def Fis_moment : Sem := run 1 1 B_is_moment
def N_is_pattern : List Str := [("value" : Str), ("one" : Str)]
def B_is_pattern : Ss := (.cons (.ite (.or_ (.not_ (.bi .isi (.cons (.var 0) (.cons (.con (.ty "tuple")) .nil)))) (.or_ (.not_ (.chain (.cm .le) (.cm .le) (.con (.int (1))) (.bi .len (.cons (.var 0) .nil)) (.con (.int (12))))) (.op .ne (.comp (.var 1) (.name 1) (.seq (.var 0)) (.not_ (.call Fis_moment (.cons (.var 1) .nil))) [1]) (.lst .nil)))) (.cons (.ret (.con (.bl false))) .nil) .nil) (.cons (.ret (.op .eq (.idx (.idx (.var 0) (.con (.int (0)))) (.con (.int (0)))) (.con (.str "major")))) .nil))
def Fis_pattern : Sem := run 1 2 B_is_pattern
def N_need_deck : List Str := [("deck" : Str)]
def B_need_deck : Ss := (.cons (.ite (.not_ (.call Fis_deck (.cons (.var 0) .nil))) (.cons (.raise "InvalidDeck") .nil) .nil) .nil)
def Fneed_deck : Sem := run 1 1 B_need_deck
def N_break_between : List Str := [("one" : Str), ("other" : Str)]
def B_break_between : Ss := (.cons (.ite (.op .eq (.var 0) (.var 1)) (.cons (.ret (.con (.str "none"))) .nil) .nil) (.cons (.ret (.ite (.op .eq (.idx (.var 0) (.con (.int (0)))) (.idx (.var 1) (.con (.int (0))))) (.con (.str "minor")) (.con (.str "major")))) .nil))
def Fbreak_between : Sem := run 2 2 B_break_between
def N_pattern_of : List Str := [("deck" : Str), ("found" : Str), ("one" : Str), ("other" : Str)]
def B_pattern_of : Ss := (.cons (.expr (.call Fneed_deck (.cons (.var 0) .nil))) (.cons (.ite (.not_ (.chain (.cm .le) (.cm .le) (.con (.int (1))) (.bi .len (.cons (.var 0) .nil)) (.con (.int (12))))) (.cons (.raise "InvalidPattern") .nil) .nil) (.cons (.set (.name 1) (.tup (.cons (.tup (.cons (.con (.str "major")) (.cons (.idx (.idx (.var 0) (.con (.int (0)))) (.con (.int (2)))) .nil))) .nil))) (.cons (.for_ (.pair (.name 2) (.name 3)) (.zip (.var 0) (.slc (.var 0) (.yes (.con (.int (1)))) .no)) (.cons (.set (.name 1) (.op .add (.var 1) (.tup (.cons (.tup (.cons (.call Fbreak_between (.cons (.slc (.var 2) .no (.yes (.con (.int (2))))) (.cons (.slc (.var 3) .no (.yes (.con (.int (2))))) .nil))) (.cons (.idx (.var 3) (.con (.int (2)))) .nil))) .nil)))) .nil)) (.cons (.ret (.var 1)) .nil)))))
def Fpattern_of : Sem := run 1 4 B_pattern_of
def N__law_vat : List Str := [("script" : Str), ("k" : Str), ("cell" : Str)]
def B__law_vat : Ss := (.cons (.set (.name 2) (.op .add (.op .mul (.con (.int (7919))) (.var 1)) (.con (.int (43))))) (.cons (.ite (.op (.cm .lt) (.var 1) (.bi .len (.cons (.var 0) .nil))) (.cons (.set (.name 2) (.bi .abs (.cons (.bi .int (.cons (.idx (.var 0) (.var 1)) .nil)) .nil))) .nil) .nil) (.cons (.ret (.mlst (.cons (.ite (.op (.cm .ge) (.var 2) (.op .pow (.con (.int (10))) (.con (.int (18))))) (.var 2) (.con (.int (0)))) (.cons (.op .add (.op .mod (.bi .int (.cons (.op .add (.op .add (.op .mul (.var 2) (.con (.int (131071)))) (.op .mul (.con (.int (8191))) (.var 1))) (.con (.int (5)))) .nil)) (.con (.int (2147483629)))) (.con (.int (1)))) .nil)))) .nil)))
def F_law_vat : Sem := run 2 3 B__law_vat
def N__law_under : List Str := [("vat" : Str), ("many" : Str), ("found" : Str), ("wide" : Str)]
def B__law_under : Ss := (.cons (.ite (.op (.cm .gt) (.idx (.var 0) (.con (.int (0)))) (.con (.int (0)))) (.cons (.set (.name 2) (.op .mod (.bi .int (.cons (.idx (.var 0) (.con (.int (0)))) .nil)) (.var 1))) (.cons (.put (.var 0) (.con (.int (0))) (.op .fdiv (.idx (.var 0) (.con (.int (0)))) (.var 1))) (.cons (.ret (.var 2)) .nil))) .nil) (.cons (.put (.var 0) (.con (.int (1))) (.op .mod (.bi .int (.cons (.op .add (.op .mul (.idx (.var 0) (.con (.int (1)))) (.con (.int (39373)))) (.con (.int (101)))) .nil)) (.con (.int (2147483629))))) (.cons (.set (.name 3) (.op .mod (.bi .int (.cons (.op .mul (.idx (.var 0) (.con (.int (1)))) (.op .add (.op .fdiv (.idx (.var 0) (.con (.int (1)))) (.con (.int (5)))) (.con (.int (9))))) .nil)) (.con (.int (2147483587))))) (.cons (.ret (.op .mod (.bi .int (.cons (.op .fdiv (.var 3) (.con (.int (32)))) .nil)) (.var 1))) .nil))))
def F_law_under : Sem := run 2 4 B__law_under
def N__law_some : List Str := [("vat" : Str), ("things" : Str)]
def B__law_some : Ss := (.cons (.ret (.idx (.var 1) (.call F_law_under (.cons (.var 0) (.cons (.bi .len (.cons (.var 1) .nil)) .nil))))) .nil)
def F_law_some : Sem := run 2 2 B__law_some
def N__law_is_whole : List Str := [("value" : Str), ("low" : Str), ("high" : Str)]
def B__law_is_whole : Ss := (.cons (.ret (.and_ (.bi .isi (.cons (.var 0) (.cons (.con (.ty "int")) .nil))) (.and_ (.not_ (.bi .isi (.cons (.var 0) (.cons (.con (.ty "bool")) .nil)))) (.chain (.cm .le) (.cm .le) (.var 1) (.var 0) (.var 2))))) .nil)
def F_law_is_whole : Sem := run 3 3 B__law_is_whole
def N__law_truly : List Str := [("found" : Str), ("due" : Str)]
def B__law_truly : Ss := (.cons (.ret (.and_ (.bi .isi (.cons (.var 0) (.cons (.con (.ty "bool")) .nil))) (.op .eq (.var 0) (.var 1)))) .nil)
def F_law_truly : Sem := run 2 2 B__law_truly
def N__law_is_one_of : List Str := [("value" : Str), ("some" : Str)]
def B__law_is_one_of : Ss := (.cons (.ret (.and_ (.bi .isi (.cons (.var 0) (.cons (.con (.ty "str")) .nil))) (.op .in_ (.var 0) (.var 1)))) .nil)
def F_law_is_one_of : Sem := run 2 2 B__law_is_one_of
def N__law_is_card : List Str := [("value" : Str), ("at" : Str)]
def B__law_is_card : Ss := (.cons (.ite (.or_ (.not_ (.bi .isi (.cons (.var 0) (.cons (.con (.ty "tuple")) .nil)))) (.or_ (.op .ne (.bi .len (.cons (.var 0) .nil)) (.con (.int (5)))) (.not_ (.bi .isi (.cons (.idx (.var 0) (.con (.int (2)))) (.cons (.con (.ty "bool")) .nil)))))) (.cons (.ret (.con (.bl false))) .nil) .nil) (.cons (.for_ (.name 1) (.seq (.tup (.cons (.con (.int (0))) (.cons (.con (.int (1))) .nil)))) (.cons (.ite (.not_ (.call F_law_is_whole (.cons (.idx (.var 0) (.var 1)) (.cons (.con (.int (0))) (.cons (.op .pow (.con (.int (10))) (.con (.int (9)))) .nil))))) (.cons (.ret (.con (.bl false))) .nil) .nil) .nil)) (.cons (.ret (.and_ (.call F_law_is_whole (.cons (.idx (.var 0) (.con (.int (3)))) (.cons (.neg (.op .pow (.con (.int (10))) (.con (.int (30))))) (.cons (.op .pow (.con (.int (10))) (.con (.int (30)))) .nil)))) (.call F_law_is_whole (.cons (.idx (.var 0) (.con (.int (4)))) (.cons (.neg (.op .pow (.con (.int (10))) (.con (.int (30))))) (.cons (.op .pow (.con (.int (10))) (.con (.int (30)))) .nil)))))) .nil)))
def F_law_is_card : Sem := run 1 2 B__law_is_card
def N__law_is_pack : List Str := [("value" : Str), ("last" : Str), ("card" : Str)]
def B__law_is_pack : Ss := (.cons (.ite (.or_ (.not_ (.bi .isi (.cons (.var 0) (.cons (.con (.ty "tuple")) .nil)))) (.op (.cm .gt) (.bi .len (.cons (.var 0) .nil)) (.con (.int (40))))) (.cons (.ret (.con (.bl false))) .nil) .nil) (.cons (.set (.name 1) (.tup (.cons (.con (.int (0))) (.cons (.con (.int (0))) .nil)))) (.cons (.for_ (.name 2) (.seq (.var 0)) (.cons (.ite (.or_ (.not_ (.call F_law_is_card (.cons (.var 2) .nil))) (.op (.cm .lt) (.slc (.var 2) .no (.yes (.con (.int (2))))) (.var 1))) (.cons (.ret (.con (.bl false))) .nil) .nil) (.cons (.set (.name 1) (.slc (.var 2) .no (.yes (.con (.int (2)))))) .nil))) (.cons (.ret (.con (.bl true))) .nil))))
def F_law_is_pack : Sem := run 1 3 B__law_is_pack
def N__law_is_from : List Str := [("frame" : Str), ("when" : Str), ("value" : Str)]
def B__law_is_from : Ss := (.cons (.ite (.bi .isi (.cons (.var 2) (.cons (.con (.ty "str")) .nil))) (.cons (.ret (.and_ (.op .in_ (.var 2) (.lst (.cons (.con (.str "x")) (.cons (.con (.str "y")) .nil)))) (.op .in_ (.var 1) (.lst (.cons (.con (.str "card")) (.cons (.con (.str "hole")) (.cons (.con (.str "plain")) .nil))))))) .nil) .nil) (.cons (.ret (.call F_law_is_whole (.cons (.var 2) (.cons (.con (.int (0))) (.cons (.op .sub (.idx (.var 0) (.con (.int (0)))) (.con (.int (1)))) .nil))))) .nil))
def F_law_is_from : Sem := run 3 3 B__law_is_from
def N__law_is_act : List Str := [("frame" : Str), ("when" : Str), ("value" : Str), ("item" : Str)]
def B__law_is_act : Ss := (.cons (.ite (.or_ (.not_ (.bi .isi (.cons (.var 2) (.cons (.con (.ty "tuple")) .nil)))) (.or_ (.op .nin (.bi .len (.cons (.var 2) .nil)) (.tup (.cons (.con (.int (2))) (.cons (.con (.int (3))) .nil)))) (.not_ (.bi .isi (.cons (.idx (.var 2) (.con (.int (0)))) (.cons (.con (.ty "str")) .nil)))))) (.cons (.ret (.con (.bl false))) .nil) .nil) (.cons (.ite (.op .eq (.bi .len (.cons (.var 2) .nil)) (.con (.int (2)))) (.cons (.ite (.op .eq (.idx (.var 2) (.con (.int (0)))) (.con (.str "clear"))) (.cons (.ret (.call F_law_is_whole (.cons (.idx (.var 2) (.con (.int (1)))) (.cons (.con (.int (0))) (.cons (.op .sub (.idx (.var 0) (.con (.int (0)))) (.con (.int (1)))) .nil))))) .nil) .nil) (.cons (.ite (.or_ (.op .ne (.idx (.var 2) (.con (.int (0)))) (.con (.str "print"))) (.or_ (.not_ (.bi .isi (.cons (.idx (.var 2) (.con (.int (1)))) (.cons (.con (.ty "tuple")) .nil)))) (.not_ (.chain (.cm .le) (.cm .le) (.con (.int (1))) (.bi .len (.cons (.idx (.var 2) (.con (.int (1)))) .nil)) (.con (.int (3))))))) (.cons (.ret (.con (.bl false))) .nil) .nil) (.cons (.ret (.op .eq (.comp (.var 3) (.name 3) (.seq (.idx (.var 2) (.con (.int (1))))) (.not_ (.call F_law_is_from (.cons (.var 0) (.cons (.var 1) (.cons (.var 3) .nil))))) [3]) (.lst .nil))) .nil))) .nil) (.cons (.ite (.op .eq (.idx (.var 2) (.con (.int (0)))) (.con (.str "set"))) (.cons (.ret (.and_ (.call F_law_is_whole (.cons (.idx (.var 2) (.con (.int (1)))) (.cons (.con (.int (0))) (.cons (.op .sub (.idx (.var 0) (.con (.int (1)))) (.con (.int (1)))) .nil)))) (.bi .isi (.cons (.idx (.var 2) (.con (.int (2)))) (.cons (.con (.ty "bool")) .nil))))) .nil) .nil) (.cons (.ite (.op .nin (.idx (.var 2) (.con (.int (0)))) (.tup (.cons (.con (.str "add")) (.cons (.con (.str "less")) .nil)))) (.cons (.ret (.con (.bl false))) .nil) .nil) (.cons (.ret (.and_ (.call F_law_is_from (.cons (.var 0) (.cons (.var 1) (.cons (.idx (.var 2) (.con (.int (1)))) .nil)))) (.call F_law_is_whole (.cons (.idx (.var 2) (.con (.int (2)))) (.cons (.con (.int (0))) (.cons (.op .sub (.idx (.var 0) (.con (.int (0)))) (.con (.int (1)))) .nil)))))) .nil)))))
def F_law_is_act : Sem := run 3 4 B__law_is_act
def N__law_is_wire : List Str := [("frame" : Str), ("value" : Str), ("switch" : Str)]
def B__law_is_wire : Ss := (.cons (.ite (.or_ (.not_ (.bi .isi (.cons (.var 1) (.cons (.con (.ty "tuple")) .nil)))) (.op .ne (.bi .len (.cons (.var 1) .nil)) (.con (.int (3))))) (.cons (.ret (.con (.bl false))) .nil) .nil) (.cons (.ite (.not_ (.call F_law_is_one_of (.cons (.idx (.var 1) (.con (.int (0)))) (.cons (.lst (.cons (.con (.str "card")) (.cons (.con (.str "hole")) (.cons (.con (.str "plain")) (.cons (.con (.str "minor")) (.cons (.con (.str "major")) .nil)))))) .nil)))) (.cons (.ret (.con (.bl false))) .nil) .nil) (.cons (.set (.name 2) (.idx (.var 1) (.con (.int (1))))) (.cons (.ite (.op .isn (.var 2) (.con .non)) (.cons (.ite (.or_ (.not_ (.bi .isi (.cons (.var 2) (.cons (.con (.ty "tuple")) .nil)))) (.or_ (.op .ne (.bi .len (.cons (.var 2) .nil)) (.con (.int (2)))) (.not_ (.bi .isi (.cons (.idx (.var 2) (.con (.int (1)))) (.cons (.con (.ty "bool")) .nil)))))) (.cons (.ret (.con (.bl false))) .nil) .nil) (.cons (.ite (.not_ (.call F_law_is_whole (.cons (.idx (.var 2) (.con (.int (0)))) (.cons (.con (.int (0))) (.cons (.op .sub (.idx (.var 0) (.con (.int (1)))) (.con (.int (1)))) .nil))))) (.cons (.ret (.con (.bl false))) .nil) .nil) .nil)) .nil) (.cons (.ret (.call F_law_is_act (.cons (.var 0) (.cons (.idx (.var 1) (.con (.int (0)))) (.cons (.idx (.var 1) (.con (.int (2)))) .nil))))) .nil)))))
def F_law_is_wire : Sem := run 2 3 B__law_is_wire
def N__law_is_board : List Str := [("value" : Str), ("wire" : Str)]
def B__law_is_board : Ss := (.cons (.ite (.or_ (.not_ (.bi .isi (.cons (.var 0) (.cons (.con (.ty "tuple")) .nil)))) (.op .ne (.bi .len (.cons (.var 0) .nil)) (.con (.int (3))))) (.cons (.ret (.con (.bl false))) .nil) .nil) (.cons (.ite (.or_ (.not_ (.call F_law_is_whole (.cons (.idx (.var 0) (.con (.int (0)))) (.cons (.con (.int (0))) (.cons (.con (.int (3))) .nil))))) (.not_ (.call F_law_is_whole (.cons (.idx (.var 0) (.con (.int (1)))) (.cons (.con (.int (0))) (.cons (.con (.int (2))) .nil)))))) (.cons (.ret (.con (.bl false))) .nil) .nil) (.cons (.ite (.or_ (.not_ (.bi .isi (.cons (.idx (.var 0) (.con (.int (2)))) (.cons (.con (.ty "tuple")) .nil)))) (.op (.cm .gt) (.bi .len (.cons (.idx (.var 0) (.con (.int (2)))) .nil)) (.con (.int (8))))) (.cons (.ret (.con (.bl false))) .nil) .nil) (.cons (.ret (.op .eq (.comp (.var 1) (.name 1) (.seq (.idx (.var 0) (.con (.int (2))))) (.not_ (.call F_law_is_wire (.cons (.slc (.var 0) .no (.yes (.con (.int (2))))) (.cons (.var 1) .nil)))) [1]) (.lst .nil))) .nil))))
def F_law_is_board : Sem := run 1 2 B__law_is_board
def N__law_is_chain : List Str := [("value" : Str), ("board" : Str)]
def B__law_is_chain : Ss := (.cons (.ite (.or_ (.not_ (.bi .isi (.cons (.var 0) (.cons (.con (.ty "tuple")) .nil)))) (.op .nin (.bi .len (.cons (.var 0) .nil)) (.tup (.cons (.con (.int (1))) (.cons (.con (.int (2))) .nil))))) (.cons (.ret (.con (.bl false))) .nil) .nil) (.cons (.ite (.op .ne (.comp (.var 1) (.name 1) (.seq (.var 0)) (.not_ (.call F_law_is_board (.cons (.var 1) .nil))) [1]) (.lst .nil)) (.cons (.ret (.con (.bl false))) .nil) .nil) (.cons (.ret (.op (.cm .lt) (.bi .sum (.cons (.comp (.bi .len (.cons (.idx (.var 1) (.con (.int (2)))) .nil)) (.name 1) (.seq (.var 0)) (.con (.bl true)) [1]) .nil)) (.con (.int (9))))) .nil)))
def F_law_is_chain : Sem := run 1 2 B__law_is_chain
def N__law_is_plan : List Str := [("value" : Str), ("pair" : Str)]
def B__law_is_plan : Ss := (.cons (.ite (.or_ (.not_ (.bi .isi (.cons (.var 0) (.cons (.con (.ty "tuple")) .nil)))) (.not_ (.chain (.cm .lt) (.cm .lt) (.con (.int (0))) (.bi .len (.cons (.var 0) .nil)) (.con (.int (13)))))) (.cons (.ret (.con (.bl false))) .nil) .nil) (.cons (.for_ (.name 1) (.seq (.var 0)) (.cons (.ite (.or_ (.not_ (.bi .isi (.cons (.var 1) (.cons (.con (.ty "tuple")) .nil)))) (.or_ (.op .ne (.bi .len (.cons (.var 1) .nil)) (.con (.int (2)))) (.not_ (.bi .isi (.cons (.idx (.var 1) (.con (.int (1)))) (.cons (.con (.ty "bool")) .nil)))))) (.cons (.ret (.con (.bl false))) .nil) .nil) (.cons (.ite (.not_ (.call F_law_is_one_of (.cons (.idx (.var 1) (.con (.int (0)))) (.cons (.lst (.cons (.con (.str "none")) (.cons (.con (.str "minor")) (.cons (.con (.str "major")) .nil)))) .nil)))) (.cons (.ret (.con (.bl false))) .nil) .nil) .nil))) (.cons (.ret (.op .eq (.idx (.idx (.var 0) (.con (.int (0)))) (.con (.int (0)))) (.con (.str "major")))) .nil)))
def F_law_is_plan : Sem := run 1 2 B__law_is_plan
def N__law_pack : List Str := [("vat" : Str), ("most" : Str), ("found" : Str), ("major" : Str), ("minor" : Str), ("turn" : Str), ("way" : Str), ("x" : Str), ("card" : Str)]
def B__law_pack : Ss := (.cons (.set (.trip (.name 2) (.name 3) (.name 4)) (.tup (.cons (.tup .nil) (.cons (.call F_law_under (.cons (.var 0) (.cons (.con (.int (2))) .nil))) (.cons (.call F_law_under (.cons (.var 0) (.cons (.con (.int (3))) .nil))) .nil))))) (.cons (.for_ (.name 5) (.rng (.call F_law_under (.cons (.var 0) (.cons (.op .add (.var 1) (.con (.int (1)))) .nil)))) (.cons (.set (.name 6) (.call F_law_under (.cons (.var 0) (.cons (.con (.int (4))) .nil)))) (.cons (.ite (.op .eq (.var 6) (.con (.int (2)))) (.cons (.set (.name 4) (.op .add (.op .add (.var 4) (.con (.int (1)))) (.call F_law_under (.cons (.var 0) (.cons (.con (.int (2))) .nil))))) .nil) .nil) (.cons (.ite (.op .eq (.var 6) (.con (.int (3)))) (.cons (.set (.pair (.name 3) (.name 4)) (.tup (.cons (.op .add (.op .add (.var 3) (.con (.int (1)))) (.call F_law_under (.cons (.var 0) (.cons (.con (.int (2))) .nil)))) (.cons (.call F_law_under (.cons (.var 0) (.cons (.con (.int (3))) .nil))) .nil)))) .nil) .nil) (.cons (.set (.name 7) (.call F_law_some (.cons (.var 0) (.cons (.lst (.cons (.con (.int (0))) (.cons (.con (.int (1))) (.cons (.con (.int (2))) (.cons (.neg (.con (.int (3)))) (.cons (.con (.int (7))) (.cons (.op .pow (.con (.int (10))) (.con (.int (12)))) (.cons (.neg (.con (.int (1)))) .nil)))))))) .nil)))) (.cons (.set (.name 8) (.tup (.cons (.var 3) (.cons (.var 4) (.cons (.op .eq (.call F_law_under (.cons (.var 0) (.cons (.con (.int (2))) .nil))) (.con (.int (0)))) (.cons (.var 7) (.cons (.call F_law_some (.cons (.var 0) (.cons (.lst (.cons (.con (.int (0))) (.cons (.con (.int (1))) (.cons (.con (.int (2))) (.cons (.neg (.con (.int (5)))) (.cons (.op .pow (.con (.int (10))) (.con (.int (9)))) .nil)))))) .nil))) .nil))))))) (.cons (.set (.name 2) (.op .add (.var 2) (.tup (.cons (.var 8) .nil)))) .nil))))))) (.cons (.ret (.var 2)) .nil)))
def F_law_pack : Sem := run 2 9 B__law_pack
def N__law_act : List Str := [("vat" : Str), ("frame" : Str), ("when" : Str), ("counters" : Str), ("switches" : Str), ("some" : Str), ("way" : Str), ("word" : Str), ("many" : Str), ("item" : Str)]
def B__law_act : Ss := (.cons (.set (.pair (.name 3) (.name 4)) (.var 1)) (.cons (.set (.pair (.name 5) (.name 6)) (.tup (.cons (.lrng (.var 3)) (.cons (.call F_law_under (.cons (.var 0) (.cons (.con (.int (9))) .nil))) .nil)))) (.cons (.ite (.op .in_ (.var 2) (.lst (.cons (.con (.str "card")) (.cons (.con (.str "hole")) (.cons (.con (.str "plain")) .nil))))) (.cons (.set (.name 5) (.op .add (.var 5) (.lst (.cons (.con (.str "x")) (.cons (.con (.str "y")) (.cons (.con (.str "x")) .nil)))))) .nil) .nil) (.cons (.ite (.and_ (.op (.cm .gt) (.var 3) (.con (.int (0)))) (.op (.cm .lt) (.var 6) (.con (.int (4))))) (.cons (.set (.name 7) (.call F_law_some (.cons (.var 0) (.cons (.lst (.cons (.con (.str "add")) (.cons (.con (.str "add")) (.cons (.con (.str "less")) .nil)))) .nil)))) (.cons (.ret (.tup (.cons (.var 7) (.cons (.call F_law_some (.cons (.var 0) (.cons (.var 5) .nil))) (.cons (.call F_law_under (.cons (.var 0) (.cons (.var 3) .nil))) .nil))))) .nil)) .nil) (.cons (.ite (.and_ (.op (.cm .gt) (.var 3) (.con (.int (0)))) (.op .eq (.var 6) (.con (.int (4))))) (.cons (.ret (.tup (.cons (.con (.str "clear")) (.cons (.call F_law_under (.cons (.var 0) (.cons (.var 3) .nil))) .nil)))) .nil) .nil) (.cons (.ite (.and_ (.op (.cm .gt) (.var 4) (.con (.int (0)))) (.op (.cm .lt) (.var 6) (.con (.int (7))))) (.cons (.ret (.tup (.cons (.con (.str "set")) (.cons (.call F_law_under (.cons (.var 0) (.cons (.var 4) .nil))) (.cons (.op (.cm .gt) (.call F_law_under (.cons (.var 0) (.cons (.con (.int (3))) .nil))) (.con (.int (0)))) .nil))))) .nil) .nil) (.cons (.ite (.op .eq (.var 5) (.lst .nil)) (.cons (.ret (.tup .nil)) .nil) .nil) (.cons (.set (.name 8) (.call F_law_some (.cons (.var 0) (.cons (.lst (.cons (.con (.int (1))) (.cons (.con (.int (1))) (.cons (.con (.int (2))) (.cons (.con (.int (3))) .nil))))) .nil)))) (.cons (.ret (.tup (.cons (.con (.str "print")) (.cons (.bi .tuple (.cons (.comp (.call F_law_some (.cons (.var 0) (.cons (.var 5) .nil))) (.name 9) (.rng (.var 8)) (.con (.bl true)) [9]) .nil)) .nil)))) .nil)))))))))
def F_law_act : Sem := run 3 10 B__law_act
def N__law_wire : List Str := [("vat" : Str), ("frame" : Str), ("when" : Str), ("switch" : Str), ("act" : Str)]
def B__law_wire : Ss := (.cons (.set (.name 2) (.call F_law_some (.cons (.var 0) (.cons (.lst (.cons (.con (.str "card")) (.cons (.con (.str "card")) (.cons (.con (.str "hole")) (.cons (.con (.str "plain")) (.cons (.con (.str "minor")) (.cons (.con (.str "minor")) (.cons (.con (.str "major")) .nil)))))))) .nil)))) (.cons (.set (.pair (.name 3) (.name 4)) (.tup (.cons (.con .non) (.cons (.call F_law_act (.cons (.var 0) (.cons (.var 1) (.cons (.var 2) .nil)))) .nil)))) (.cons (.ite (.and_ (.op (.cm .gt) (.idx (.var 1) (.con (.int (1)))) (.con (.int (0)))) (.op .eq (.call F_law_under (.cons (.var 0) (.cons (.con (.int (3))) .nil))) (.con (.int (0))))) (.cons (.set (.name 3) (.tup (.cons (.call F_law_under (.cons (.var 0) (.cons (.idx (.var 1) (.con (.int (1)))) .nil))) (.cons (.op .eq (.call F_law_under (.cons (.var 0) (.cons (.con (.int (2))) .nil))) (.con (.int (0)))) .nil)))) .nil) .nil) (.cons (.ret (.ite (.op .ne (.var 4) (.tup .nil)) (.tup (.cons (.var 2) (.cons (.var 3) (.cons (.var 4) .nil)))) (.tup .nil))) .nil))))
def F_law_wire : Sem := run 2 5 B__law_wire
def N__law_board : List Str := [("vat" : Str), ("most" : Str), ("frame" : Str), ("wires" : Str), ("turn" : Str), ("wire" : Str)]
def B__law_board : Ss := (.cons (.set (.name 2) (.tup (.cons (.call F_law_some (.cons (.var 0) (.cons (.lst (.cons (.con (.int (0))) (.cons (.con (.int (1))) (.cons (.con (.int (1))) (.cons (.con (.int (2))) (.cons (.con (.int (2))) .nil)))))) .nil))) (.cons (.call F_law_some (.cons (.var 0) (.cons (.lst (.cons (.con (.int (0))) (.cons (.con (.int (0))) (.cons (.con (.int (1))) .nil)))) .nil))) .nil)))) (.cons (.set (.name 3) (.comp (.call F_law_wire (.cons (.var 0) (.cons (.var 2) .nil))) (.name 4) (.rng (.call F_law_under (.cons (.var 0) (.cons (.op .add (.var 1) (.con (.int (1)))) .nil)))) (.con (.bl true)) [4])) (.cons (.ret (.op .add (.var 2) (.tup (.cons (.bi .tuple (.cons (.comp (.var 5) (.name 5) (.seq (.var 3)) (.op .ne (.var 5) (.tup .nil)) [5]) .nil)) .nil)))) .nil)))
def F_law_board : Sem := run 2 6 B__law_board
def N__law_odd : List Str := [("vat" : Str), ("depth" : Str), ("some" : Str), ("row" : Str), ("part" : Str)]
def B0__law_odd : Ss := (.cons (.set (.name 2) (.lst (.cons (.con .non) (.cons (.con (.bl true)) (.cons (.con (.bl false)) (.cons (.con (.int (0))) (.cons (.con (.int (1))) (.cons (.con (.int (2))) (.cons (.con (.int (3))) (.cons (.neg (.con (.int (1)))) (.cons (.op .pow (.con (.int (10))) (.con (.int (31)))) (.cons (.con (.str "")) (.cons (.con (.str "x")) (.cons (.con (.str "y")) (.cons (.con (.str "card")) (.cons (.con (.str "minor")) (.cons (.con (.str "print")) (.cons (.con (.str "set")) (.cons (.tup .nil) (.cons (.lst .nil) .nil)))))))))))))))))))) (.cons (.set (.name 2) (.op .add (.var 2) (.lst (.cons (.tup (.cons (.con (.int (0))) (.cons (.con (.bl true)) .nil))) (.cons (.tup (.cons (.con (.str "print")) (.cons (.tup (.cons (.con (.str "x")) .nil)) .nil))) (.cons (.tup (.cons (.con (.str "add")) (.cons (.con (.str "x")) (.cons (.con (.int (0))) .nil)))) (.cons (.tup (.cons (.con (.str "none")) (.cons (.con (.bl true)) .nil))) (.cons (.tup (.cons (.con (.int (1))) (.cons (.con (.int (1))) (.cons (.con (.bl true)) (.cons (.con (.int (2))) (.cons (.con (.int (3))) .nil)))))) (.cons (.tup (.cons (.con (.int (0))) (.cons (.con (.int (0))) (.cons (.tup .nil) .nil)))) .nil))))))))) (.cons (.ite (.or_ (.op .eq (.var 1) (.con (.int (0)))) (.op (.cm .lt) (.call F_law_under (.cons (.var 0) (.cons (.con (.int (9))) .nil))) (.con (.int (6))))) (.cons (.ret (.call F_law_some (.cons (.var 0) (.cons (.var 2) .nil)))) .nil) .nil) (.cons .bot (.cons (.ret (.ite (.op .eq (.call F_law_under (.cons (.var 0) (.cons (.con (.int (3))) .nil))) (.con (.int (0)))) (.var 3) (.bi .tuple (.cons (.var 3) .nil)))) .nil)))))
def B__law_odd (F : Sem) : Ss := (.cons (.set (.name 2) (.lst (.cons (.con .non) (.cons (.con (.bl true)) (.cons (.con (.bl false)) (.cons (.con (.int (0))) (.cons (.con (.int (1))) (.cons (.con (.int (2))) (.cons (.con (.int (3))) (.cons (.neg (.con (.int (1)))) (.cons (.op .pow (.con (.int (10))) (.con (.int (31)))) (.cons (.con (.str "")) (.cons (.con (.str "x")) (.cons (.con (.str "y")) (.cons (.con (.str "card")) (.cons (.con (.str "minor")) (.cons (.con (.str "print")) (.cons (.con (.str "set")) (.cons (.tup .nil) (.cons (.lst .nil) .nil)))))))))))))))))))) (.cons (.set (.name 2) (.op .add (.var 2) (.lst (.cons (.tup (.cons (.con (.int (0))) (.cons (.con (.bl true)) .nil))) (.cons (.tup (.cons (.con (.str "print")) (.cons (.tup (.cons (.con (.str "x")) .nil)) .nil))) (.cons (.tup (.cons (.con (.str "add")) (.cons (.con (.str "x")) (.cons (.con (.int (0))) .nil)))) (.cons (.tup (.cons (.con (.str "none")) (.cons (.con (.bl true)) .nil))) (.cons (.tup (.cons (.con (.int (1))) (.cons (.con (.int (1))) (.cons (.con (.bl true)) (.cons (.con (.int (2))) (.cons (.con (.int (3))) .nil)))))) (.cons (.tup (.cons (.con (.int (0))) (.cons (.con (.int (0))) (.cons (.tup .nil) .nil)))) .nil))))))))) (.cons (.ite (.or_ (.op .eq (.var 1) (.con (.int (0)))) (.op (.cm .lt) (.call F_law_under (.cons (.var 0) (.cons (.con (.int (9))) .nil))) (.con (.int (6))))) (.cons (.ret (.call F_law_some (.cons (.var 0) (.cons (.var 2) .nil)))) .nil) .nil) (.cons (.set (.name 3) (.comp (.call F (.cons (.var 0) (.cons (.op .sub (.var 1) (.con (.int (1)))) .nil))) (.name 4) (.rng (.call F_law_under (.cons (.var 0) (.cons (.con (.int (4))) .nil)))) (.con (.bl true)) [4])) (.cons (.ret (.ite (.op .eq (.call F_law_under (.cons (.var 0) (.cons (.con (.int (3))) .nil))) (.con (.int (0)))) (.var 3) (.bi .tuple (.cons (.var 3) .nil)))) .nil)))))
def R__law_odd : Nat → Sem
  | 0 => run 2 5 B0__law_odd
  | n + 1 => run 2 5 (B__law_odd (R__law_odd n))
def F_law_odd : Sem := R__law_odd 4
def N__law_bent : List Str := [("vat" : Str), ("value" : Str), ("near" : Str), ("at" : Str), ("way" : Str)]
def B0__law_bent : Ss := (.cons (.ite (.or_ (.not_ (.bi .isi (.cons (.var 1) (.cons (.con (.ty "tuple")) .nil)))) (.or_ (.op .eq (.var 1) (.tup .nil)) (.op .eq (.call F_law_under (.cons (.var 0) (.cons (.con (.int (7))) .nil))) (.con (.int (0)))))) (.cons (.set (.name 2) (.lst (.cons (.call F_law_odd (.cons (.var 0) (.cons (.con (.int (1))) .nil))) (.cons (.call F_law_odd (.cons (.var 0) (.cons (.con (.int (1))) .nil))) .nil)))) (.cons (.ite (.bi .isi (.cons (.var 1) (.cons (.con (.ty "str")) .nil))) (.cons (.set (.name 2) (.op .add (.var 2) (.lst (.cons (.con (.str "x")) (.cons (.con (.str "hole")) (.cons (.con (.str "less")) (.cons (.con (.str "clear")) (.cons (.con (.str "major")) (.cons (.slc (.var 1) .no (.yes (.neg (.con (.int (1)))))) (.cons (.meth .upper (.var 1) .nil) .nil)))))))))) .nil) (.cons (.ite (.bi .isi (.cons (.var 1) (.cons (.con (.ty "int")) .nil))) (.cons (.set (.name 2) (.op .add (.var 2) (.lst (.cons (.op .add (.var 1) (.con (.int (1)))) (.cons (.op .sub (.var 1) (.con (.int (1)))) (.cons (.nott (.var 1)) (.cons (.bi .str (.cons (.var 1) .nil)) (.cons (.op .mul (.con (.int (10))) (.var 1)) .nil)))))))) .nil) .nil) .nil)) (.cons (.ret (.call F_law_some (.cons (.var 0) (.cons (.var 2) .nil)))) .nil))) .nil) (.cons (.set (.pair (.name 3) (.name 4)) (.tup (.cons (.call F_law_under (.cons (.var 0) (.cons (.bi .len (.cons (.var 1) .nil)) .nil))) (.cons (.call F_law_under (.cons (.var 0) (.cons (.con (.int (9))) .nil))) .nil)))) (.cons (.ite (.op .eq (.var 4) (.con (.int (0)))) (.cons (.ret (.op .add (.slc (.var 1) .no (.yes (.var 3))) (.slc (.var 1) (.yes (.op .add (.var 3) (.con (.int (1))))) .no))) .nil) .nil) (.cons (.ite (.op .eq (.var 4) (.con (.int (1)))) (.cons (.ret (.op .add (.slc (.var 1) .no (.yes (.op .add (.var 3) (.con (.int (1)))))) (.slc (.var 1) (.yes (.var 3)) .no))) .nil) .nil) (.cons (.ite (.op .eq (.var 4) (.con (.int (2)))) (.cons (.ret (.rev (.var 1))) .nil) .nil) (.cons (.ite (.op .eq (.var 4) (.con (.int (3)))) (.cons (.ret (.bi .list (.cons (.var 1) .nil))) .nil) .nil) (.cons .bot .nil)))))))
def B__law_bent (F : Sem) : Ss := (.cons (.ite (.or_ (.not_ (.bi .isi (.cons (.var 1) (.cons (.con (.ty "tuple")) .nil)))) (.or_ (.op .eq (.var 1) (.tup .nil)) (.op .eq (.call F_law_under (.cons (.var 0) (.cons (.con (.int (7))) .nil))) (.con (.int (0)))))) (.cons (.set (.name 2) (.lst (.cons (.call F_law_odd (.cons (.var 0) (.cons (.con (.int (1))) .nil))) (.cons (.call F_law_odd (.cons (.var 0) (.cons (.con (.int (1))) .nil))) .nil)))) (.cons (.ite (.bi .isi (.cons (.var 1) (.cons (.con (.ty "str")) .nil))) (.cons (.set (.name 2) (.op .add (.var 2) (.lst (.cons (.con (.str "x")) (.cons (.con (.str "hole")) (.cons (.con (.str "less")) (.cons (.con (.str "clear")) (.cons (.con (.str "major")) (.cons (.slc (.var 1) .no (.yes (.neg (.con (.int (1)))))) (.cons (.meth .upper (.var 1) .nil) .nil)))))))))) .nil) (.cons (.ite (.bi .isi (.cons (.var 1) (.cons (.con (.ty "int")) .nil))) (.cons (.set (.name 2) (.op .add (.var 2) (.lst (.cons (.op .add (.var 1) (.con (.int (1)))) (.cons (.op .sub (.var 1) (.con (.int (1)))) (.cons (.nott (.var 1)) (.cons (.bi .str (.cons (.var 1) .nil)) (.cons (.op .mul (.con (.int (10))) (.var 1)) .nil)))))))) .nil) .nil) .nil)) (.cons (.ret (.call F_law_some (.cons (.var 0) (.cons (.var 2) .nil)))) .nil))) .nil) (.cons (.set (.pair (.name 3) (.name 4)) (.tup (.cons (.call F_law_under (.cons (.var 0) (.cons (.bi .len (.cons (.var 1) .nil)) .nil))) (.cons (.call F_law_under (.cons (.var 0) (.cons (.con (.int (9))) .nil))) .nil)))) (.cons (.ite (.op .eq (.var 4) (.con (.int (0)))) (.cons (.ret (.op .add (.slc (.var 1) .no (.yes (.var 3))) (.slc (.var 1) (.yes (.op .add (.var 3) (.con (.int (1))))) .no))) .nil) .nil) (.cons (.ite (.op .eq (.var 4) (.con (.int (1)))) (.cons (.ret (.op .add (.slc (.var 1) .no (.yes (.op .add (.var 3) (.con (.int (1)))))) (.slc (.var 1) (.yes (.var 3)) .no))) .nil) .nil) (.cons (.ite (.op .eq (.var 4) (.con (.int (2)))) (.cons (.ret (.rev (.var 1))) .nil) .nil) (.cons (.ite (.op .eq (.var 4) (.con (.int (3)))) (.cons (.ret (.bi .list (.cons (.var 1) .nil))) .nil) .nil) (.cons (.ret (.op .add (.op .add (.slc (.var 1) .no (.yes (.var 3))) (.tup (.cons (.call F (.cons (.var 0) (.cons (.idx (.var 1) (.var 3)) .nil))) .nil))) (.slc (.var 1) (.yes (.op .add (.var 3) (.con (.int (1))))) .no))) .nil)))))))
def R__law_bent : Nat → Sem
  | 0 => run 2 5 B0__law_bent
  | n + 1 => run 2 5 (B__law_bent (R__law_bent n))
def F_law_bent : Sem := R__law_bent 24
end Pg
set_option Elab.async false
set_option linter.all false
set_option maxRecDepth 100000
/-! Evl: running the small language step by step (for simp: what comes later stands in named functions that are not looked into ahead of time). -/
namespace Ev
open PySem L2 Mi
/-- as in Mi, but not seen through -/
def bindR {α β : Type} (x : RM α) (f : α → List Mo → RM β) : RM β := Mi.bindR x f
def thenE {α : Type} (x : RM α) (δ : List Sl) (f : α → List Mo → SM) : SM := Mi.thenE x δ f
def thenS (x : SM) (f : List Sl → List Mo → SM) : SM := Mi.thenS x f
/-- a step that simp writes down (and the kernel does not look for) -/
theorem nr {α : Sort u} {a b : α} (h : a = b) : a = b := h
section
variable {α β : Type} {a : α} {e : Ex} {μ : List Mo} {δ : List Sl} {f : α → List Mo → RM β} {g : α → List Mo → SM} {h : List Sl → List Mo → SM} {d : D}
@[simp] theorem bR_ok : bindR (some (.ok a, μ)) f = f a μ := nr rfl
@[simp] theorem bR_er : bindR (some (.error e, μ)) f = some (.error e, μ) := nr rfl
@[simp] theorem tE_ok : thenE (some (.ok a, μ)) δ g = g a μ := nr rfl
@[simp] theorem tE_er {g : α → List Mo → SM} : thenE (some (.error e, μ)) δ g = some (.ex e, δ, μ) := nr rfl
@[simp] theorem tS_nx : thenS (some (.nx, δ, μ)) h = h δ μ := nr rfl
@[simp] theorem tS_rt : thenS (some (.rt d, δ, μ)) h = some (.rt d, δ, μ) := nr rfl
@[simp] theorem tS_ex : thenS (some (.ex e, δ, μ)) h = some (.ex e, δ, μ) := nr rfl
@[simp] theorem tS_ct : thenS (some (.ct, δ, μ)) h = some (.ct, δ, μ) := nr rfl
@[simp] theorem tS_bk : thenS (some (.bk, δ, μ)) h = some (.bk, δ, μ) := nr rfl
@[simp] theorem rR : retR a μ = some (.ok a, μ) := nr rfl
@[simp] theorem oR : optR (some a) μ = some (.ok a, μ) := nr rfl
end
/-- a def's end -/
def fin : SM → RM D
  | some (.nx, _, μ) => some (.ok .non, μ)
  | some (.rt d, _, μ) => some (.ok d, μ)
  | some (.ex e, _, μ) => some (.error e, μ)
  | _ => none
@[simp] theorem fin_nx {δ : List Sl} {μ : List Mo} : fin (some (.nx, δ, μ)) = some (.ok .non, μ) := nr rfl
@[simp] theorem fin_rt {d : D} {δ : List Sl} {μ : List Mo} : fin (some (.rt d, δ, μ)) = some (.ok d, μ) := nr rfl
@[simp] theorem fin_ex {e : Ex} {δ : List Sl} {μ : List Mo} : fin (some (.ex e, δ, μ)) = some (.error e, μ) := nr rfl
theorem go {np ns : Nat} {b : Ss} {xs : List D} {μ : List Mo} (h : xs.length = np) : Mi.run np ns b xs μ = fin (exs b (xs.map .d ++ List.replicate (ns - np) .un) μ) := by
  unfold Mi.run
  rw [if_pos h]
  generalize exs b (xs.map .d ++ List.replicate (ns - np) .un) μ = r
  rcases r with _ | ⟨fl, _, _⟩
  · rfl
  · cases fl <;> rfl
theorem bx {α β : Type} {x : RM α} {f g : α → List Mo → RM β} (h : ∀ a μ, f a μ = g a μ) : bindR x f = bindR x g := by rw [show f = g from funext fun a => funext fun μ => h a μ]
theorem tx {α : Type} {x : RM α} {δ : List Sl} {f g : α → List Mo → SM} (h : ∀ a μ, f a μ = g a μ) : thenE x δ f = thenE x δ g := by rw [show f = g from funext fun a => funext fun μ => h a μ]
/-! ### what comes behind a part -/
def vr : Option Sl → List Mo → RM D
  | some (.d x), μ => some (.ok x, μ)
  | _, _ => none
def k2 (o : Op) (x y : D) (μ : List Mo) : RM D := optR (o.do μ x y) μ
def k1 (o : Op) (b : E) (δ : List Sl) (x : D) (μ : List Mo) : RM D := bindR (ev b δ μ) (k2 o x)
def kneg : D → List Mo → RM D
  | .int i, μ => some (.ok (.int (-i)), μ)
  | _, _ => none
def knot : D → List Mo → RM D
  | .bl b, μ => some (.ok (.bl (!b)), μ)
  | _, _ => none
def knott (x : D) (μ : List Mo) : RM D := optR ((truD x).map fun b => .bl (!b)) μ
def kand (b : E) (δ : List Sl) : D → List Mo → RM D
  | .bl true, μ => ev b δ μ
  | .bl false, μ => some (.ok (.bl false), μ)
  | _, _ => none
def kor (b : E) (δ : List Sl) : D → List Mo → RM D
  | .bl true, μ => some (.ok (.bl true), μ)
  | .bl false, μ => ev b δ μ
  | _, _ => none
def kite (a b : E) (δ : List Sl) : D → List Mo → RM D
  | .bl true, μ => ev a δ μ
  | .bl false, μ => ev b δ μ
  | _, _ => none
def kc3 (o : Op) (c : E) (δ : List Sl) (y : D) : D → List Mo → RM D
  | .bl true, μ => bindR (ev c δ μ) (k2 o y)
  | .bl false, μ => some (.ok (.bl false), μ)
  | _, _ => none
def kc2 (o o' : Op) (c : E) (δ : List Sl) (x y : D) (μ : List Mo) : RM D := bindR (optR (o.do μ x y) μ) (kc3 o' c δ y)
def kc1 (o o' : Op) (b c : E) (δ : List Sl) (x : D) (μ : List Mo) : RM D := bindR (ev b δ μ) (kc2 o o' c δ x)
def ki2 (x y : D) (μ : List Mo) : RM D := optR (ixD μ x y) μ
def ki1 (b : E) (δ : List Sl) (x : D) (μ : List Mo) : RM D := bindR (ev b δ μ) (ki2 x)
def kl (xs : List D) : D → List Mo → RM D
  | .int j, μ => optR (L2.atI xs j) μ
  | _, _ => none
def kl0 (b : E) (δ : List Sl) (μ : List Mo) : Option Sl → RM D
  | some (.lin xs) => bindR (ev b δ μ) (kl xs)
  | _ => none
def ks3 (x : D) (l h : Option Int) (μ : List Mo) : RM D := optR (slD μ x l h) μ
def ks2 (hi : Eo) (δ : List Sl) (x : D) (l : Option Int) (μ : List Mo) : RM D := bindR (evo hi δ μ) (ks3 x l)
def ks1 (lo hi : Eo) (δ : List Sl) (x : D) (μ : List Mo) : RM D := bindR (evo lo δ μ) (ks2 hi δ x)
def krev (x : D) (μ : List Mo) : RM D := optR (revD μ x) μ
def ktup (xs : List D) (μ : List Mo) : RM D := if xs.length ≤ sizeLine then some (.ok (.tup xs), μ) else none
def klst (xs : List D) (μ : List Mo) : RM D := if xs.length ≤ sizeLine then some (.ok (.lst xs), μ) else none
def kmlst (xs : List D) (μ : List Mo) : RM D := if xs.length ≤ sizeLine then some (.ok (.obj μ.length), μ ++ [.lst xs]) else none
def kb (f : Bi) (xs : List D) (μ : List Mo) : RM D := optR (f.do μ xs) μ
def kcomp (elt : E) (tg : Tg) (cond : E) (own : List Nat) (δ : List Sl) (xs : List D) (μ : List Mo) : RM D := compL tg (ev cond) (ev elt) (wipeS δ own) xs [] μ
def klr : D → List Mo → RM D
  | .int j, μ => if (decide (-(2 ^ 62) ≤ j) && decide (j ≤ 16777216)) = true then some (.ok (.lst (rgD 0 j)), μ) else none
  | _, _ => none
def kerr (nms : List (Str × Str)) : RM D → RM D
  | some (.ok _, μ) => some (.ok (.str ""), μ)
  | some (.error (c, none), μ) => optR ((nms.lookup c).map .str) μ
  | _ => none
def km2 (f : Bi) (z : Str) (xs : List D) (μ : List Mo) : RM D := optR (f.do μ (.str z :: xs)) μ
def km1 (f : Bi) (es : Es) (δ : List Sl) : D → List Mo → RM D
  | .str z, μ => bindR (evs es δ μ) (km2 f z)
  | _, _ => none
def kmr2 (d : D) : D → List Mo → RM D
  | .int j, μ => if (decide (-(2 ^ 63) ≤ j) && decide (j < 2 ^ 63) && decide (j.toNat ≤ sizeLine)) = true then some (.ok (.obj μ.length), μ ++ [.lst (List.replicate j.toNat d)]) else none
  | _, _ => none
def kmr1 (k : E) (δ : List Sl) (d : D) (μ : List Mo) : RM D := bindR (ev k δ μ) (kmr2 d)
def kdct (ks : List Str) (xs : List D) (μ : List Mo) : RM D := if (decide (ks.length = xs.length) && decide (ks.length ≤ 15) && decide ks.Nodup && !ks.isEmpty) = true then some (.ok (.obj μ.length), μ ++ [.dct (ks.zip xs)]) else none
def kes2 (x : D) (xs : List D) (μ : List Mo) : RM (List D) := some (.ok (x :: xs), μ)
def kes (es : Es) (δ : List Sl) (x : D) (μ : List Mo) : RM (List D) := bindR (evs es δ μ) (kes2 x)
def keo : D → List Mo → RM (Option Int)
  | .int i, μ => some (.ok (some i), μ)
  | _, _ => none
def kseq (x : D) (μ : List Mo) : RM (List D) := optR (seqD [] x) μ
def krng : D → List Mo → RM (List D)
  | .int j, μ => if rgOk 0 j = true then some (.ok (rgD 0 j), μ) else none
  | _, _ => none
def krg2 : D → D → List Mo → RM (List D)
  | .int i, .int j, μ => if rgOk i j = true then some (.ok (rgD i j), μ) else none
  | _, _, _ => none
def krg1 (b : E) (δ : List Sl) (x : D) (μ : List Mo) : RM (List D) := bindR (ev b δ μ) (krg2 x)
def kenum (x : D) (μ : List Mo) : RM (List D) := optR (enumK x) μ
def kzip2 (x y : D) (μ : List Mo) : RM (List D) := optR (zipK x y) μ
def kzip1 (b : E) (δ : List Sl) (x : D) (μ : List Mo) : RM (List D) := bindR (ev b δ μ) (kzip2 x)
def nxt (δ : Option (List Sl)) (μ : List Mo) : SM := δ.bind fun δ => some (.nx, δ, μ)
def kexp (δ : List Sl) (_ : D) (μ : List Mo) : SM := some (.nx, δ, μ)
def kset (t : Tg) (δ : List Sl) (x : D) (μ : List Mo) : SM := nxt (t.put x δ) μ
def kret (δ : List Sl) (x : D) (μ : List Mo) : SM := some (.rt x, δ, μ)
def kif (a b : Ss) (δ : List Sl) : D → List Mo → SM
  | .bl true, μ => exs a δ μ
  | .bl false, μ => exs b δ μ
  | _, _ => none
def kfor (t : Tg) (body : Ss) (δ : List Sl) (xs : List D) (μ : List Mo) : SM := forL t (exs body) xs δ μ
def nxm (δ : List Sl) (μ : Option (List Mo)) : SM := μ.bind fun μ => some (.nx, δ, μ)
def kp3 (δ : List Sl) (v x k : D) (μ : List Mo) : SM := nxm δ (putD μ x k v)
def kp2 (i : E) (δ : List Sl) (v x : D) (μ : List Mo) : SM := thenE (ev i δ μ) δ (kp3 δ v x)
def kp1 (o i : E) (δ : List Sl) (v : D) (μ : List Mo) : SM := thenE (ev o δ μ) δ (kp2 i δ v)
def klin (i : Nat) (δ : List Sl) (xs : List D) (μ : List Mo) : SM := if xs.length ≤ sizeLine then some (.nx, δ.set i (.lin xs), μ) else none
def kapp (i : Nat) (δ : List Sl) (xs : List D) (x : D) (μ : List Mo) : SM := if xs.length < sizeLine then some (.nx, δ.set i (.lin (xs ++ [x])), μ) else none
def kapp0 (i : Nat) (e : E) (δ : List Sl) (μ : List Mo) : Option Sl → SM
  | some (.lin xs) => thenE (ev e δ μ) δ (kapp i δ xs)
  | _ => none
def kstill (i : Nat) (δ : List Sl) (μ : List Mo) : Option Sl → SM
  | some (.lin xs) => some (.nx, δ.set i (.d (.lst xs)), μ)
  | _ => none
section
variable {δ : List Sl} {μ : List Mo} {a b c e : E} {es : Es} {o o' : Op} {i : Nat} {d x y : D} {xs : List D} {s : Mi.St} {ss sa sb : Ss} {t : Tg} {it : Mi.It} {lo hi : Eo} {f : Bi} {F : Sem}
@[simp] theorem v_d : vr (some (.d x)) μ = some (.ok x, μ) := nr rfl
@[simp] theorem e_var : ev (.var i) δ μ = vr δ[i]? μ := by simp only [ev]; generalize δ[i]? = o; rcases o with _ | o <;> first | rfl | (cases o <;> rfl)
@[simp] theorem e_con : ev (.con d) δ μ = some (.ok d, μ) := by simp only [ev, rR]
@[simp] theorem e_op : ev (.op o a b) δ μ = bindR (ev a δ μ) (k1 o b δ) := by simp only [ev]; rfl
@[simp] theorem e_k1 : k1 o b δ x μ = bindR (ev b δ μ) (k2 o x) := nr rfl
@[simp] theorem e_k2 : k2 o x y μ = optR (o.do μ x y) μ := nr rfl
@[simp] theorem e_neg : ev (.neg a) δ μ = bindR (ev a δ μ) kneg := by simp only [ev]; exact bx fun d μ => by cases d <;> first | rfl | (rename_i b; cases b <;> rfl)
@[simp] theorem e_kneg {i : Int} : kneg (.int i) μ = some (.ok (.int (-i)), μ) := nr rfl
@[simp] theorem e_not : ev (.not_ a) δ μ = bindR (ev a δ μ) knot := by simp only [ev]; exact bx fun d μ => by cases d <;> first | rfl | (rename_i b; cases b <;> rfl)
@[simp] theorem e_knot {b : Bool} : knot (.bl b) μ = some (.ok (.bl (!b)), μ) := nr rfl
@[simp] theorem e_nott : ev (.nott a) δ μ = bindR (ev a δ μ) knott := by simp only [ev]; rfl
@[simp] theorem e_knott : knott x μ = optR ((truD x).map fun b => .bl (!b)) μ := nr rfl
@[simp] theorem e_and : ev (.and_ a b) δ μ = bindR (ev a δ μ) (kand b δ) := by simp only [ev]; exact bx fun d μ => by cases d <;> first | rfl | (rename_i b; cases b <;> rfl)
@[simp] theorem e_kand1 : kand b δ (.bl true) μ = ev b δ μ := nr rfl
@[simp] theorem e_kand0 : kand b δ (.bl false) μ = some (.ok (.bl false), μ) := nr rfl
@[simp] theorem e_or : ev (.or_ a b) δ μ = bindR (ev a δ μ) (kor b δ) := by simp only [ev]; exact bx fun d μ => by cases d <;> first | rfl | (rename_i b; cases b <;> rfl)
@[simp] theorem e_kor1 : kor b δ (.bl true) μ = some (.ok (.bl true), μ) := nr rfl
@[simp] theorem e_kor0 : kor b δ (.bl false) μ = ev b δ μ := nr rfl
@[simp] theorem e_ite : ev (.ite c a b) δ μ = bindR (ev c δ μ) (kite a b δ) := by simp only [ev]; exact bx fun d μ => by cases d <;> first | rfl | (rename_i b; cases b <;> rfl)
@[simp] theorem e_kite1 : kite a b δ (.bl true) μ = ev a δ μ := nr rfl
@[simp] theorem e_kite0 : kite a b δ (.bl false) μ = ev b δ μ := nr rfl
@[simp] theorem e_chain : ev (.chain o o' a b c) δ μ = bindR (ev a δ μ) (kc1 o o' b c δ) := by simp only [ev]; exact bx fun x μ => bx fun y μ => bx fun d μ => by cases d <;> first | rfl | (rename_i b; cases b <;> rfl)
@[simp] theorem e_kc1 : kc1 o o' b c δ x μ = bindR (ev b δ μ) (kc2 o o' c δ x) := nr rfl
@[simp] theorem e_kc2 : kc2 o o' c δ x y μ = bindR (optR (o.do μ x y) μ) (kc3 o' c δ y) := nr rfl
@[simp] theorem e_kc31 : kc3 o c δ y (.bl true) μ = bindR (ev c δ μ) (k2 o y) := nr rfl
@[simp] theorem e_kc30 : kc3 o c δ y (.bl false) μ = some (.ok (.bl false), μ) := nr rfl
@[simp] theorem e_idx : ev (.idx a b) δ μ = bindR (ev a δ μ) (ki1 b δ) := by simp only [ev]; rfl
@[simp] theorem e_ki1 : ki1 b δ x μ = bindR (ev b δ μ) (ki2 x) := nr rfl
@[simp] theorem e_ki2 : ki2 x y μ = optR (ixD μ x y) μ := nr rfl
@[simp] theorem e_lidx : ev (.lidx i b) δ μ = kl0 b δ μ δ[i]? := by simp only [ev]; generalize δ[i]? = o; rcases o with _ | o <;> first | rfl | (cases o <;> first | rfl | exact bx fun d μ => by cases d <;> rfl)
@[simp] theorem e_kl0 : kl0 b δ μ (some (.lin xs)) = bindR (ev b δ μ) (kl xs) := nr rfl
@[simp] theorem e_kl {j : Int} : kl xs (.int j) μ = optR (L2.atI xs j) μ := nr rfl
@[simp] theorem e_slc : ev (.slc a lo hi) δ μ = bindR (ev a δ μ) (ks1 lo hi δ) := by simp only [ev]; rfl
@[simp] theorem e_ks1 : ks1 lo hi δ x μ = bindR (evo lo δ μ) (ks2 hi δ x) := nr rfl
@[simp] theorem e_ks2 {l : Option Int} : ks2 hi δ x l μ = bindR (evo hi δ μ) (ks3 x l) := nr rfl
@[simp] theorem e_ks3 {l h : Option Int} : ks3 x l h μ = optR (slD μ x l h) μ := nr rfl
@[simp] theorem e_rev : ev (.rev a) δ μ = bindR (ev a δ μ) krev := by simp only [ev]; rfl
@[simp] theorem e_krev : krev x μ = optR (revD μ x) μ := nr rfl
@[simp] theorem e_tup : ev (.tup es) δ μ = bindR (evs es δ μ) ktup := by simp only [ev]; rfl
@[simp] theorem e_ktup (hc : xs.length ≤ sizeLine) : ktup xs μ = some (.ok (.tup xs), μ) := if_pos hc
@[simp] theorem e_lst : ev (.lst es) δ μ = bindR (evs es δ μ) klst := by simp only [ev]; rfl
@[simp] theorem e_klst (hc : xs.length ≤ sizeLine) : klst xs μ = some (.ok (.lst xs), μ) := if_pos hc
@[simp] theorem e_mlst : ev (.mlst es) δ μ = bindR (evs es δ μ) kmlst := by simp only [ev]; rfl
@[simp] theorem e_kmlst (hc : xs.length ≤ sizeLine) : kmlst xs μ = some (.ok (.obj μ.length), μ ++ [.lst xs]) := if_pos hc
@[simp] theorem e_call : ev (.call F es) δ μ = bindR (evs es δ μ) F := by simp only [ev]; rfl
@[simp] theorem e_bi : ev (.bi f es) δ μ = bindR (evs es δ μ) (kb f) := by simp only [ev]; rfl
@[simp] theorem e_kb : kb f xs μ = optR (f.do μ xs) μ := nr rfl
@[simp] theorem e_comp {own : List Nat} : ev (.comp e t it c own) δ μ = bindR (evi it δ μ) (kcomp e t c own δ) := by simp only [ev]; rfl
@[simp] theorem e_lrng : ev (.lrng a) δ μ = bindR (ev a δ μ) klr := by simp only [ev]; exact bx fun d μ => by cases d <;> first | rfl | (rename_i b; cases b <;> rfl)
@[simp] theorem e_klr {j : Int} (hc : (decide (-(2 ^ 62) ≤ j) && decide (j ≤ 16777216)) = true) : klr (.int j) μ = some (.ok (.lst (rgD 0 j)), μ) := if_pos hc
@[simp] theorem e_err {nms : List (Str × Str)} : ev (.err nms e) δ μ = kerr nms (ev e δ μ) := by simp only [ev]; generalize ev e δ μ = r; rcases r with _ | ⟨r, _⟩ <;> first | rfl | (rcases r with ⟨_, _ | _⟩ | _ <;> rfl)
@[simp] theorem e_kerr1 {nms : List (Str × Str)} : kerr nms (some (.ok d, μ)) = some (.ok (.str ""), μ) := nr rfl
@[simp] theorem e_kerr0 {nms : List (Str × Str)} {z : Str} : kerr nms (some (.error (z, none), μ)) = optR ((nms.lookup z).map .str) μ := nr rfl
@[simp] theorem e_meth : ev (.meth f e es) δ μ = bindR (ev e δ μ) (km1 f es δ) := by simp only [ev]; exact bx fun d μ => by cases d <;> first | rfl | (rename_i b; cases b <;> rfl)
@[simp] theorem e_km1 {z : Str} : km1 f es δ (.str z) μ = bindR (evs es δ μ) (km2 f z) := nr rfl
@[simp] theorem e_km2 {z : Str} : km2 f z xs μ = optR (f.do μ (.str z :: xs)) μ := nr rfl
@[simp] theorem e_mrep : ev (.mrep a b) δ μ = bindR (ev a δ μ) (kmr1 b δ) := by simp only [ev]; exact bx fun x μ => bx fun d μ => by cases d <;> first | rfl | (rename_i b; cases b <;> rfl)
@[simp] theorem e_kmr1 : kmr1 b δ x μ = bindR (ev b δ μ) (kmr2 x) := nr rfl
@[simp] theorem e_kmr2 {j : Int} (hc : (decide (-(2 ^ 63) ≤ j) && decide (j < 2 ^ 63) && decide (j.toNat ≤ sizeLine)) = true) : kmr2 x (.int j) μ = some (.ok (.obj μ.length), μ ++ [.lst (List.replicate j.toNat x)]) := if_pos hc
@[simp] theorem e_dct {ks : List Str} : ev (.dct ks es) δ μ = bindR (evs es δ μ) (kdct ks) := by simp only [ev]; rfl
@[simp] theorem e_kdct {ks : List Str} (hc : (decide (ks.length = xs.length) && decide (ks.length ≤ 15) && decide ks.Nodup && !ks.isEmpty) = true) : kdct ks xs μ = some (.ok (.obj μ.length), μ ++ [.dct (ks.zip xs)]) := if_pos hc
@[simp] theorem e_nil : evs .nil δ μ = some (.ok [], μ) := by simp only [evs, rR]
@[simp] theorem e_cons : evs (.cons e es) δ μ = bindR (ev e δ μ) (kes es δ) := by simp only [evs]; rfl
@[simp] theorem e_kes : kes es δ x μ = bindR (evs es δ μ) (kes2 x) := nr rfl
@[simp] theorem e_kes2 : kes2 x xs μ = some (.ok (x :: xs), μ) := nr rfl
@[simp] theorem e_no : evo .no δ μ = some (.ok none, μ) := by simp only [evo, rR]
@[simp] theorem e_yes : evo (.yes e) δ μ = bindR (ev e δ μ) keo := by simp only [evo]; exact bx fun d μ => by cases d <;> first | rfl | (rename_i b; cases b <;> rfl)
@[simp] theorem e_keo {j : Int} : keo (.int j) μ = some (.ok (some j), μ) := nr rfl
@[simp] theorem e_seq : evi (.seq e) δ μ = bindR (ev e δ μ) kseq := by simp only [evi]; rfl
@[simp] theorem e_kseqt : kseq (.tup xs) μ = some (.ok xs, μ) := nr rfl
@[simp] theorem e_kseql : kseq (.lst xs) μ = some (.ok xs, μ) := nr rfl
@[simp] theorem e_rng : evi (.rng e) δ μ = bindR (ev e δ μ) krng := by simp only [evi]; exact bx fun d μ => by cases d <;> first | rfl | (rename_i b; cases b <;> rfl)
@[simp] theorem e_krng {j : Int} (hc : rgOk 0 j = true) : krng (.int j) μ = some (.ok (rgD 0 j), μ) := if_pos hc
@[simp] theorem e_rng2 : evi (.rng2 a b) δ μ = bindR (ev a δ μ) (krg1 b δ) := by simp only [evi]; exact bx fun x μ => bx fun y μ => by cases x <;> cases y <;> rfl
@[simp] theorem e_krg1 : krg1 b δ x μ = bindR (ev b δ μ) (krg2 x) := nr rfl
@[simp] theorem e_krg2 {i j : Int} (hc : rgOk i j = true) : krg2 (.int i) (.int j) μ = some (.ok (rgD i j), μ) := if_pos hc
@[simp] theorem e_enum : evi (.enum e) δ μ = bindR (ev e δ μ) kenum := by simp only [evi]; rfl
@[simp] theorem e_kenumt : kenum (.tup xs) μ = some (.ok (enumD xs), μ) := nr rfl
@[simp] theorem e_kenuml : kenum (.lst xs) μ = some (.ok (enumD xs), μ) := nr rfl
@[simp] theorem e_zip : evi (.zip a b) δ μ = bindR (ev a δ μ) (kzip1 b δ) := by simp only [evi]; rfl
@[simp] theorem e_kzip1 : kzip1 b δ x μ = bindR (ev b δ μ) (kzip2 x) := nr rfl
@[simp] theorem e_kzipt {ys : List D} : kzip2 (.tup xs) (.tup ys) μ = some (.ok (zipD xs ys), μ) := nr rfl
@[simp] theorem e_kzipl {ys : List D} : kzip2 (.lst xs) (.lst ys) μ = some (.ok (zipD xs ys), μ) := nr rfl
@[simp] theorem nxt_s {δ' : List Sl} : nxt (some δ') μ = some (.nx, δ', μ) := nr rfl
@[simp] theorem x_pass : ex .pass δ μ = some (.nx, δ, μ) := by simp only [ex]
@[simp] theorem x_expr : ex (.expr e) δ μ = thenE (ev e δ μ) δ (kexp δ) := by simp only [ex]; rfl
@[simp] theorem x_kexp : kexp δ x μ = some (.nx, δ, μ) := nr rfl
@[simp] theorem x_set : ex (.set t e) δ μ = thenE (ev e δ μ) δ (kset t δ) := by simp only [ex]; rfl
@[simp] theorem x_kset : kset t δ x μ = nxt (t.put x δ) μ := nr rfl
@[simp] theorem x_ret : ex (.ret e) δ μ = thenE (ev e δ μ) δ (kret δ) := by simp only [ex]; rfl
@[simp] theorem x_kret : kret δ x μ = some (.rt x, δ, μ) := nr rfl
@[simp] theorem x_retn : ex .retn δ μ = some (.rt .non, δ, μ) := by simp only [ex]
@[simp] theorem x_ite : ex (.ite c sa sb) δ μ = thenE (ev c δ μ) δ (kif sa sb δ) := by simp only [ex]; exact tx fun d μ => by cases d <;> first | rfl | (rename_i b; cases b <;> rfl)
@[simp] theorem x_kif1 : kif sa sb δ (.bl true) μ = exs sa δ μ := nr rfl
@[simp] theorem x_kif0 : kif sa sb δ (.bl false) μ = exs sb δ μ := nr rfl
@[simp] theorem x_for : ex (.for_ t it ss) δ μ = thenE (evi it δ μ) δ (kfor t ss δ) := by simp only [ex]; rfl
theorem x_kfor : kfor t ss δ xs μ = forL t (exs ss) xs δ μ := rfl
@[simp] theorem x_while {n : Nat} : ex (.while_ n c ss) δ μ = whileL (ev c) (exs ss) n δ μ := by simp only [ex]
@[simp] theorem x_brk : ex .brk δ μ = some (.bk, δ, μ) := by simp only [ex]
@[simp] theorem x_cont : ex .cont δ μ = some (.ct, δ, μ) := by simp only [ex]
@[simp] theorem x_raise {z : Str} : ex (.raise z) δ μ = some (.ex (z, none), δ, μ) := by simp only [ex]
@[simp] theorem x_put : ex (.put a b e) δ μ = thenE (ev e δ μ) δ (kp1 a b δ) := by simp only [ex]; rfl
@[simp] theorem x_kp1 : kp1 a b δ x μ = thenE (ev a δ μ) δ (kp2 b δ x) := nr rfl
@[simp] theorem x_kp2 : kp2 b δ x y μ = thenE (ev b δ μ) δ (kp3 δ x y) := nr rfl
@[simp] theorem x_kp3 : kp3 δ x y d μ = nxm δ (putD μ y d x) := nr rfl
@[simp] theorem nxm_s {μ' : List Mo} : nxm δ (some μ') = some (.nx, δ, μ') := nr rfl
@[simp] theorem x_lin : ex (.lin i es) δ μ = thenE (evs es δ μ) δ (klin i δ) := by simp only [ex]; rfl
@[simp] theorem x_klin (hc : xs.length ≤ sizeLine) : klin i δ xs μ = some (.nx, δ.set i (.lin xs), μ) := if_pos hc
@[simp] theorem x_app : ex (.app i e) δ μ = kapp0 i e δ μ δ[i]? := by simp only [ex]; generalize δ[i]? = o; rcases o with _ | o <;> first | rfl | (cases o <;> rfl)
@[simp] theorem x_kapp0 : kapp0 i e δ μ (some (.lin xs)) = thenE (ev e δ μ) δ (kapp i δ xs) := nr rfl
@[simp] theorem x_kapp (hc : xs.length < sizeLine) : kapp i δ xs x μ = some (.nx, δ.set i (.lin (xs ++ [x])), μ) := if_pos hc
@[simp] theorem x_still : ex (.still i) δ μ = kstill i δ μ δ[i]? := by simp only [ex]; generalize δ[i]? = o; rcases o with _ | o <;> first | rfl | (cases o <;> rfl)
@[simp] theorem x_kstill : kstill i δ μ (some (.lin xs)) = some (.nx, δ.set i (.d (.lst xs)), μ) := nr rfl
@[simp] theorem x_nil : exs .nil δ μ = some (.nx, δ, μ) := by simp only [exs]
@[simp] theorem x_cons : exs (.cons s ss) δ μ = thenS (ex s δ μ) (exs ss) := by simp only [exs]; rfl
@[simp] theorem p_name : Tg.put (.name i) d δ = some (δ.set i (.d d)) := nr rfl
@[simp] theorem p_pair {t' : Tg} : Tg.put (.pair t t') (.tup [x, y]) δ = (t.put x δ).bind fun δ => t'.put y δ := nr rfl
@[simp] theorem p_trip {t' t2 : Tg} {z : D} : Tg.put (.trip t t' t2) (.tup [x, y, z]) δ = (t.put x δ).bind fun δ => (t'.put y δ).bind fun δ => t2.put z δ := nr rfl
/-! operators one by one -/
@[simp] theorem o_add {a b : D} : Op.do .add μ a b = addD μ a b := nr rfl
@[simp] theorem o_sub {i j : Int} : Op.do .sub μ (.int i) (.int j) = some (.int (i - j)) := nr rfl
@[simp] theorem o_mul {a b : D} : Op.do .mul μ a b = mulD a b := nr rfl
@[simp] theorem o_mod {i j : Int} (hc : 0 < j) : Op.do .mod μ (.int i) (.int j) = some (.int (i % j)) := if_pos hc
@[simp] theorem o_fdiv {i j : Int} (hc : (decide (0 < j) && decide (j.natAbs.log2 < 9000)) = true) : Op.do .fdiv μ (.int i) (.int j) = some (.int (i / j)) := if_pos hc
@[simp] theorem o_lt {i j : Int} : Op.do (.cm .lt) μ (.int i) (.int j) = some (.bl (decide (i < j))) := nr rfl
@[simp] theorem o_le {i j : Int} : Op.do (.cm .le) μ (.int i) (.int j) = some (.bl (decide (i ≤ j))) := nr rfl
@[simp] theorem o_gt {i j : Int} : Op.do (.cm .gt) μ (.int i) (.int j) = some (.bl (decide (j < i))) := nr rfl
@[simp] theorem o_ge {i j : Int} : Op.do (.cm .ge) μ (.int i) (.int j) = some (.bl (decide (j ≤ i))) := nr rfl
@[simp] theorem o_eq {a b : D} : Op.do .eq μ a b = (eqD μ a b).map .bl := nr rfl
@[simp] theorem o_ne {a b : D} : Op.do .ne μ a b = (eqD μ a b).map fun r => .bl (!r) := nr rfl
@[simp] theorem o_is {a b : D} : Op.do .is_ μ a b = (isD a b).map .bl := nr rfl
@[simp] theorem o_isn {a b : D} : Op.do .isn μ a b = (isD a b).map fun r => .bl (!r) := nr rfl
@[simp] theorem a_int {i j : Int} : addD μ (.int i) (.int j) = some (.int (i + j)) := nr rfl
@[simp] theorem a_tup {xs ys : List D} (hc : xs.length + ys.length ≤ sizeLine) : addD μ (.tup xs) (.tup ys) = some (.tup (xs ++ ys)) := if_pos hc
@[simp] theorem a_lst {xs ys : List D} (hc : xs.length + ys.length ≤ sizeLine) : addD μ (.lst xs) (.lst ys) = some (.lst (xs ++ ys)) := if_pos hc
@[simp] theorem a_str {z w : Str} (hc : z.length + w.length ≤ sizeLine) : addD μ (.str z) (.str w) = some (.str (z ++ w)) := if_pos hc
@[simp] theorem ix_t {j : Int} : ixD μ (.tup xs) (.int j) = L2.atI xs j := nr rfl
@[simp] theorem ix_l {j : Int} : ixD μ (.lst xs) (.int j) = L2.atI xs j := nr rfl
@[simp] theorem ix_s {ns : List Int} {j : Int} : ixD μ (.scr ns) (.int j) = (L2.atI ns j).map .int := nr rfl
@[simp] theorem sl_t {l h : Option Int} : slD μ (.tup xs) l h = some (.tup (cutL xs l h)) := nr rfl
@[simp] theorem sl_l {l h : Option Int} : slD μ (.lst xs) l h = some (.lst (cutL xs l h)) := nr rfl
@[simp] theorem is_non : isD .non .non = some true := nr rfl
@[simp] theorem is_tup : isD (.tup xs) .non = some false := nr rfl
@[simp] theorem b_len_t : Bi.do .len μ [.tup xs] = some (.int xs.length) := nr rfl
@[simp] theorem b_len_l : Bi.do .len μ [.lst xs] = some (.int xs.length) := nr rfl
@[simp] theorem b_len_s {ns : List Int} : Bi.do .len μ [.scr ns] = some (.int ns.length) := nr rfl
@[simp] theorem b_int {j : Int} : Bi.do .int μ [.int j] = some (.int j) := nr rfl
@[simp] theorem b_abs {j : Int} : Bi.do .abs μ [.int j] = some (.int (if j < 0 then -j else j)) := nr rfl
@[simp] theorem b_tuple_l : Bi.do .tuple μ [.lst xs] = some (.tup xs) := nr rfl
@[simp] theorem b_tuple_t : Bi.do .tuple μ [.tup xs] = some (.tup xs) := nr rfl
@[simp] theorem b_list_l : Bi.do .list μ [.lst xs] = some (.lst xs) := nr rfl
@[simp] theorem b_list_t : Bi.do .list μ [.tup xs] = some (.lst xs) := nr rfl
@[simp] theorem b_min {i j : Int} : Bi.do .min μ [.int i, .int j] = some (.int (if j < i then j else i)) := nr rfl
@[simp] theorem b_max {i j : Int} : Bi.do .max μ [.int i, .int j] = some (.int (if j > i then j else i)) := nr rfl
@[simp] theorem b_str {z : Str} : Bi.do .str μ [.str z] = some (.str z) := nr rfl
end
section
variable {α : Type} {x y z w u : α} {xs : List α}
@[simp] theorem at0 : L2.atI (x :: xs) 0 = some x := by
  have h : (0 : Int) < ((x :: xs).length : Int) := by simp only [List.length_cons]; omega
  unfold L2.atI L2.ixN
  rw [if_pos (by omega), if_pos h]; rfl
@[simp] theorem at1 : L2.atI (x :: y :: xs) 1 = some y := by
  have h : (1 : Int) < ((x :: y :: xs).length : Int) := by simp only [List.length_cons]; omega
  unfold L2.atI L2.ixN
  rw [if_pos (by omega), if_pos h]; rfl
@[simp] theorem at2 : L2.atI (x :: y :: z :: xs) 2 = some z := by
  have h : (2 : Int) < ((x :: y :: z :: xs).length : Int) := by simp only [List.length_cons]; omega
  unfold L2.atI L2.ixN
  rw [if_pos (by omega), if_pos h]; rfl
@[simp] theorem at3 : L2.atI (x :: y :: z :: w :: xs) 3 = some w := by
  have h : (3 : Int) < ((x :: y :: z :: w :: xs).length : Int) := by simp only [List.length_cons]; omega
  unfold L2.atI L2.ixN
  rw [if_pos (by omega), if_pos h]; rfl
@[simp] theorem at4 : L2.atI (x :: y :: z :: w :: u :: xs) 4 = some u := by
  have h : (4 : Int) < ((x :: y :: z :: w :: u :: xs).length : Int) := by simp only [List.length_cons]; omega
  unfold L2.atI L2.ixN
  rw [if_pos (by omega), if_pos h]; rfl
end
theorem szL : sizeLine = 16777216 := sizeLine_eq
end Ev
set_option Elab.async false
set_option linter.all false
set_option maxRecDepth 100000
set_option maxHeartbeats 4000000
/-! Evq: == and in of data. -/
namespace Ev
open PySem L2 Mi
mutual
/-- == -/
def eqb : D → D → Bool
  | .non, .non => true
  | .bl a, .bl b => a == b
  | .bl a, .int j => (if a = true then (1 : Int) else 0) == j
  | .int i, .bl b => i == (if b = true then (1 : Int) else 0)
  | .int i, .int j => i == j
  | .str x, .str y => x == y
  | .lst xs, .lst ys => eqbs xs ys
  | .tup xs, .tup ys => eqbs xs ys
  | _, _ => false
def eqbs : List D → List D → Bool
  | [], [] => true
  | x :: xs, y :: ys => eqb x y && eqbs xs ys
  | _, _ => false
end
mutual
/-- plain data, at most n deep -/
def okN : Nat → D → Bool
  | _, .non => true
  | _, .bl _ => true
  | _, .int _ => true
  | _, .str x => PyData.strOk x
  | n + 1, .tup xs => okNs n xs
  | n + 1, .lst xs => okNs n xs
  | _, _ => false
def okNs : Nat → List D → Bool
  | _, [] => true
  | n, x :: xs => okN n x && okNs n xs
end
mutual
theorem ok_py : ∀ (n : Nat) (a : D), okN n a = true → ∃ p, py0 a = some p ∧ p.canLay0 = true ∧ p.depth ≤ n
  | _, .non, _ => ⟨_, rfl, by simp [PyData.canLay0], by simp [PyData.depth]⟩
  | _, .bl _, _ => ⟨_, rfl, by simp [PyData.canLay0], by simp [PyData.depth]⟩
  | _, .int _, _ => ⟨_, rfl, by simp [PyData.canLay0], by simp [PyData.depth]⟩
  | _, .str x, h => ⟨_, rfl, by simpa [PyData.canLay0, okN] using h, by simp [PyData.depth]⟩
  | n + 1, .tup xs, h => by
    obtain ⟨ps, h1, h2, h3⟩ := oks_py n xs (by simpa [okN] using h)
    exact ⟨.tuple ps, by simp [py0, h1], by simpa [PyData.canLay0] using h2, by simp [PyData.depth]; omega⟩
  | n + 1, .lst xs, h => by
    obtain ⟨ps, h1, h2, h3⟩ := oks_py n xs (by simpa [okN] using h)
    exact ⟨.list ps, by simp [py0, h1], by simpa [PyData.canLay0] using h2, by simp [PyData.depth]; omega⟩
  | 0, .tup _, h => by simp [okN] at h
  | 0, .lst _, h => by simp [okN] at h
  | n, .ty _, h => by cases n <;> simp [okN] at h
  | n, .glo _, h => by cases n <;> simp [okN] at h
  | n, .obj _, h => by cases n <;> simp [okN] at h
  | n, .scr _, h => by cases n <;> simp [okN] at h
theorem oks_py : ∀ (n : Nat) (xs : List D), okNs n xs = true → ∃ ps, py0s xs = some ps ∧ PyData.canLayAll0 ps = true ∧ PyData.depthAll ps ≤ n
  | _, [], _ => ⟨[], rfl, by simp [PyData.canLayAll0], by simp [PyData.depthAll]⟩
  | n, x :: xs, h => by
    simp only [okNs, Bool.and_eq_true] at h
    obtain ⟨p, h1, h2, h3⟩ := ok_py n x h.1
    obtain ⟨ps, h4, h5, h6⟩ := oks_py n xs h.2
    exact ⟨p :: ps, by simp [py0s, h1, h4], by simp [PyData.canLayAll0, h2, h5], by simp [PyData.depthAll]; omega⟩
end
mutual
theorem eqv_eqb : ∀ (a b : D) (p q : PyData), py0 a = some p → py0 b = some q → PyData.eqv p q = eqb a b
  | .tup xs, .tup ys, p, q, h1, h2 => by
    simp only [py0, Option.map_eq_some_iff] at h1 h2
    obtain ⟨ps, h1, rfl⟩ := h1
    obtain ⟨qs, h2, rfl⟩ := h2
    simp only [PyData.eqv, eqb]
    exact eqvs_eqbs xs ys ps qs h1 h2
  | .lst xs, .lst ys, p, q, h1, h2 => by
    simp only [py0, Option.map_eq_some_iff] at h1 h2
    obtain ⟨ps, h1, rfl⟩ := h1
    obtain ⟨qs, h2, rfl⟩ := h2
    simp only [PyData.eqv, eqb]
    exact eqvs_eqbs xs ys ps qs h1 h2
  | .non, b, p, q, h1, h2 => by cases b <;> simp [py0] at h1 h2 <;> first | (subst h1; first | (subst h2; simp [PyData.eqv, eqb]; done) | (obtain ⟨_, _, rfl⟩ := h2; simp [PyData.eqv, eqb]; done)) | skip
  | .bl a, b, p, q, h1, h2 => by cases b <;> simp [py0] at h1 h2 <;> first | (subst h1; first | (subst h2; simp [PyData.eqv, eqb]; done) | (obtain ⟨_, _, rfl⟩ := h2; simp [PyData.eqv, eqb]; done)) | skip
  | .int a, b, p, q, h1, h2 => by cases b <;> simp [py0] at h1 h2 <;> first | (subst h1; first | (subst h2; simp [PyData.eqv, eqb]; done) | (obtain ⟨_, _, rfl⟩ := h2; simp [PyData.eqv, eqb]; done)) | skip
  | .str a, b, p, q, h1, h2 => by cases b <;> simp [py0] at h1 h2 <;> first | (subst h1; first | (subst h2; simp [PyData.eqv, eqb]; done) | (obtain ⟨_, _, rfl⟩ := h2; simp [PyData.eqv, eqb]; done)) | skip
  | .tup xs, b, p, q, h1, h2 => by
    cases b <;> simp [py0] at h1 h2 <;> (obtain ⟨ps, h1, rfl⟩ := h1) <;> first
      | (subst h2; simp [PyData.eqv, eqb]; done)
      | (obtain ⟨qs, h2, rfl⟩ := h2; first | (simp [PyData.eqv, eqb]; done) | (simp only [PyData.eqv, eqb]; exact eqvs_eqbs _ _ _ _ h1 h2))
  | .lst xs, b, p, q, h1, h2 => by
    cases b <;> simp [py0] at h1 h2 <;> (obtain ⟨ps, h1, rfl⟩ := h1) <;> first
      | (subst h2; simp [PyData.eqv, eqb]; done)
      | (obtain ⟨qs, h2, rfl⟩ := h2; first | (simp [PyData.eqv, eqb]; done) | (simp only [PyData.eqv, eqb]; exact eqvs_eqbs _ _ _ _ h1 h2))
  | .ty _, _, _, _, h1, _ => by simp [py0] at h1
  | .glo _, _, _, _, h1, _ => by simp [py0] at h1
  | .obj _, _, _, _, h1, _ => by simp [py0] at h1
  | .scr _, _, _, _, h1, _ => by simp [py0] at h1
theorem eqvs_eqbs : ∀ (xs ys : List D) (ps qs : List PyData), py0s xs = some ps → py0s ys = some qs → PyData.eqvAll ps qs = eqbs xs ys
  | [], [], ps, qs, h1, h2 => by
    simp [py0s] at h1 h2
    subst h1 h2
    simp [PyData.eqvAll, eqbs]
  | x :: xs, y :: ys, ps, qs, h1, h2 => by
    simp only [py0s, Option.bind_eq_some_iff, Option.map_eq_some_iff] at h1 h2
    obtain ⟨p, h3, ps', h4, rfl⟩ := h1
    obtain ⟨q, h5, qs', h6, rfl⟩ := h2
    simp only [PyData.eqvAll, eqbs, eqv_eqb x y p q h3 h5, eqvs_eqbs xs ys ps' qs' h4 h6]
  | [], y :: ys, ps, qs, h1, h2 => by
    simp only [py0s, Option.bind_eq_some_iff, Option.map_eq_some_iff, Option.some.injEq] at h1 h2
    subst h1
    obtain ⟨q, h5, qs', h6, rfl⟩ := h2
    simp [PyData.eqvAll, eqbs]
  | x :: xs, [], ps, qs, h1, h2 => by
    simp only [py0s, Option.bind_eq_some_iff, Option.map_eq_some_iff, Option.some.injEq] at h1 h2
    subst h2
    obtain ⟨p, h3, ps', h4, rfl⟩ := h1
    simp [PyData.eqvAll, eqbs]
end
theorem see_ok {μ : List Mo} {n : Nat} {a : D} (h : okN n a = true) : see μ a = a := by
  cases a with
  | obj k => cases n <;> simp [okN] at h
  | _ => rfl
theorem eqD_ok {μ : List Mo} {a b : D} (ha : okN 64 a = true) (hb : okN 64 b = true) : eqD μ a b = some (eqb a b) := by
  obtain ⟨p, h1, h2, h3⟩ := ok_py 64 a ha
  obtain ⟨q, h4, h5, h6⟩ := ok_py 64 b hb
  unfold eqD
  rw [see_ok ha, see_ok hb, h1, h4]
  simp only [Option.bind_some]
  rw [if_pos (by simp [SeqAt.shaped, h2, h3, h5, h6]), eqv_eqb a b p q h1 h4]
theorem any_eqb {a : D} {p : PyData} (h : py0 a = some p) : ∀ {ds : List D} {qs : List PyData}, py0s ds = some qs → (qs.any fun z => PyData.eqv z p) = ds.any fun z => eqb z a
  | [], qs, h2 => by
    simp [py0s] at h2
    subst h2
    rfl
  | d :: ds, qs, h2 => by
    simp only [py0s, Option.bind_eq_some_iff, Option.map_eq_some_iff] at h2
    obtain ⟨q, h5, qs', h6, rfl⟩ := h2
    rw [List.any_cons, List.any_cons, any_eqb h h6, eqv_eqb d a q p h5 h]
theorem inD_t {μ : List Mo} {a : D} {ds : List D} (ha : okN 64 a = true) (hb : okNs 63 ds = true) : inD μ a (.tup ds) = some (ds.any fun z => eqb z a) := by
  obtain ⟨p, h1, h2, h3⟩ := ok_py 64 a ha
  obtain ⟨qs, h4, h5, h6⟩ := oks_py 63 ds hb
  have e : inD μ a (.tup ds) = (py0 (see μ a)).bind fun p => (py0s ds).bind fun qs => if (SeqAt.shaped p && SeqAt.shaped (.tuple qs)) = true then some (qs.any fun z => PyData.eqv z p) else none := rfl
  rw [e, see_ok ha, h1, h4]
  simp only [Option.bind_some]
  rw [if_pos (by simp [SeqAt.shaped, h2, h3, PyData.canLay0, PyData.depth, h5]; omega), any_eqb h1 h4]
theorem inD_l {μ : List Mo} {a : D} {ds : List D} (ha : okN 64 a = true) (hb : okNs 63 ds = true) : inD μ a (.lst ds) = some (ds.any fun z => eqb z a) := by
  obtain ⟨p, h1, h2, h3⟩ := ok_py 64 a ha
  obtain ⟨qs, h4, h5, h6⟩ := oks_py 63 ds hb
  have e : inD μ a (.lst ds) = (py0 (see μ a)).bind fun p => (py0s ds).bind fun qs => if (SeqAt.shaped p && SeqAt.shaped (.list qs)) = true then some (qs.any fun z => PyData.eqv z p) else none := rfl
  rw [e, see_ok ha, h1, h4]
  simp only [Option.bind_some]
  rw [if_pos (by simp [SeqAt.shaped, h2, h3, PyData.canLay0, PyData.depth, h5]; omega), any_eqb h1 h4]
mutual
theorem okN_mono : ∀ (n m : Nat) (a : D), n ≤ m → okN n a = true → okN m a = true
  | _, m, .non, _, _ => by cases m <;> rfl
  | _, m, .bl _, _, _ => by cases m <;> rfl
  | _, m, .int _, _, _ => by cases m <;> rfl
  | n, m, .str x, _, h => by cases n <;> cases m <;> simpa [okN] using h
  | n + 1, m + 1, .tup xs, hm, h => by simp only [okN] at h ⊢; exact okNs_mono n m xs (by omega) h
  | n + 1, m + 1, .lst xs, hm, h => by simp only [okN] at h ⊢; exact okNs_mono n m xs (by omega) h
  | 0, _, .tup _, _, h => by simp [okN] at h
  | 0, _, .lst _, _, h => by simp [okN] at h
  | n + 1, 0, _, hm, _ => by omega
  | n, _, .ty _, _, h => by cases n <;> simp [okN] at h
  | n, _, .glo _, _, h => by cases n <;> simp [okN] at h
  | n, _, .obj _, _, h => by cases n <;> simp [okN] at h
  | n, _, .scr _, _, h => by cases n <;> simp [okN] at h
theorem okNs_mono : ∀ (n m : Nat) (xs : List D), n ≤ m → okNs n xs = true → okNs m xs = true
  | _, _, [], _, _ => by simp [okNs]
  | n, m, x :: xs, hm, h => by
    simp only [okNs, Bool.and_eq_true] at h ⊢
    exact ⟨okN_mono n m x hm h.1, okNs_mono n m xs hm h.2⟩
end
theorem okNs_all {n : Nat} : ∀ {xs : List D}, (∀ x ∈ xs, okN n x = true) → okNs n xs = true
  | [], _ => rfl
  | x :: xs, h => by
    simp only [okNs, Bool.and_eq_true]
    exact ⟨h x List.mem_cons_self, okNs_all fun y hy => h y (List.mem_cons_of_mem _ hy)⟩
theorem eq_lnil {μ : List Mo} {xs : List D} (h : okNs 63 xs = true) : eqD μ (.lst xs) (.lst []) = some xs.isEmpty := by
  rw [eqD_ok (by simpa [okN] using h) (by rfl)]
  cases xs <;> simp [eqb, eqbs]
theorem eq_tnil {μ : List Mo} {xs : List D} (h : okNs 63 xs = true) : eqD μ (.tup xs) (.tup []) = some xs.isEmpty := by
  rw [eqD_ok (by simpa [okN] using h) (by rfl)]
  cases xs <;> simp [eqb, eqbs]
mutual
theorem eqb_rfl : ∀ (n : Nat) (a : D), okN n a = true → eqb a a = true
  | _, .non, _ => rfl
  | _, .bl b, _ => by simp [eqb]
  | _, .int _, _ => by simp [eqb]
  | _, .str x, _ => by simp [eqb]
  | n + 1, .tup xs, h => by simp only [eqb]; exact eqbs_rfl n xs (by simpa [okN] using h)
  | n + 1, .lst xs, h => by simp only [eqb]; exact eqbs_rfl n xs (by simpa [okN] using h)
  | 0, .tup _, h => by simp [okN] at h
  | 0, .lst _, h => by simp [okN] at h
  | n, .ty _, h => by cases n <;> simp [okN] at h
  | n, .glo _, h => by cases n <;> simp [okN] at h
  | n, .obj _, h => by cases n <;> simp [okN] at h
  | n, .scr _, h => by cases n <;> simp [okN] at h
theorem eqbs_rfl : ∀ (n : Nat) (xs : List D), okNs n xs = true → eqbs xs xs = true
  | _, [], _ => rfl
  | n, x :: xs, h => by
    simp only [okNs, Bool.and_eq_true] at h
    simp only [eqbs, eqb_rfl n x h.1, eqbs_rfl n xs h.2, Bool.and_self]
end
theorem eq_same {μ : List Mo} {a : D} (h : okN 64 a = true) : eqD μ a a = some true := by rw [eqD_ok h h, eqb_rfl 64 a h]
@[simp] theorem eq_int {μ : List Mo} {i j : Int} : eqD μ (.int i) (.int j) = some (decide (i = j)) := by
  rw [eqD_ok (by rfl) (by rfl)]
  simp only [eqb]
  congr 1
end Ev
set_option Elab.async false
set_option linter.all false
set_option maxRecDepth 100000
set_option maxHeartbeats 4000000
/-! Dra: what the laws draw: numbers, items. -/
namespace Dr
open PySem L2 Mi Pg
/-- the state of a source of numbers at the thing n -/
def Vat (μ : List Mo) (n : Nat) : Prop := ∃ a b : Int, μ[n]? = some (.lst [.int a, .int b]) ∧ 0 ≤ a ∧ 0 ≤ b ∧ b < 2 ^ 32
/-- drawn from the thing n: all else stands -/
structure Dn (n : Nat) (μ μ' : List Mo) : Prop where
  vat : Vat μ' n
  len : μ'.length = μ.length
  oth : ∀ m, m ≠ n → μ'[m]? = μ[m]?
theorem Dn.trans {n : Nat} {μ μ1 μ2 : List Mo} (a : Dn n μ μ1) (b : Dn n μ1 μ2) : Dn n μ μ2 := ⟨b.vat, b.len.trans a.len, fun m h => (b.oth m h).trans (a.oth m h)⟩
theorem Dn.of_set {n : Nat} {μ : List Mo} {a b : Int} (h : n < μ.length) (ha : 0 ≤ a) (hb : 0 ≤ b) (hb2 : b < 2 ^ 32) : Dn n μ (μ.set n (.lst [.int a, .int b])) :=
  ⟨⟨a, b, by rw [List.getElem?_set_self h], ha, hb, hb2⟩, by simp, fun m hm => by rw [List.getElem?_set_ne hm.symm]⟩
theorem Vat.dn {n : Nat} {μ : List Mo} (h : Vat μ n) : Dn n μ μ := ⟨h, rfl, fun _ _ => rfl⟩
theorem Vat.lt {n : Nat} {μ : List Mo} (h : Vat μ n) : n < μ.length := by
  obtain ⟨a, b, e, _⟩ := h
  exact (List.getElem?_eq_some_iff.mp e).1
theorem log_small {m : Int} (h0 : 0 < m) (h : m < 2 ^ 64) : m.natAbs.log2 < 9000 := by
  have : m.natAbs < 2 ^ 64 := by omega
  have h2 : m.natAbs ≠ 0 := by omega
  have := (Nat.log2_lt h2).mpr this
  omega
theorem under_spec {n : Nat} {μ : List Mo} {m : Int} (v : Vat μ n) (h0 : 0 < m) (h1 : m < 2 ^ 64) : ∃ r μ', F_law_under [.obj n, .int m] μ = some (.ok (.int r), μ') ∧ Dn n μ μ' ∧ 0 ≤ r ∧ r < m := by
  have hlt := v.lt
  obtain ⟨a, b, e, ha, hb, hb2⟩ := v
  have hl := log_small h0 h1
  by_cases hp : 0 < a
  · refine ⟨a % m, μ.set n (.lst [.int (a / m), .int b]), ?_, Dn.of_set hlt (Int.ediv_nonneg ha (by omega)) hb hb2, Int.emod_nonneg _ (by omega), Int.emod_lt_of_pos _ h0⟩
    simp [F_law_under, Mi.run, B__law_under, exs, ex, ev, evs, thenE, thenS, bindR, retR, optR, ixD, see, e, L2.atI, L2.ixN, Op.do, cmD, Cm.int, hp, Bi.do, Tg.put, h0, hl, putD]
  · have ha0 : a = 0 := by omega
    subst ha0
    have hb3 : 0 ≤ (b * 39373 + 101) % 2147483629 := Int.emod_nonneg _ (by omega)
    have hb4 : (b * 39373 + 101) % 2147483629 < 2147483629 := Int.emod_lt_of_pos _ (by omega)
    obtain ⟨c, hc⟩ : ∃ c, (b * 39373 + 101) % 2147483629 = c := ⟨_, rfl⟩
    rw [hc] at hb3 hb4
    have s1 : Mi.small64 39373 = true := by decide
    have s2 : Mi.small64 c = true := by unfold Mi.small64; simp; omega
    refine ⟨(c * (c / 5 + 9) % 2147483587 / 32) % m, μ.set n (.lst [.int 0, .int c]), ?_, Dn.of_set hlt (by omega) hb3 (by omega), Int.emod_nonneg _ (by omega), Int.emod_lt_of_pos _ h0⟩
    have e2 : (μ.set n (Mo.lst [D.int 0, D.int c]))[n]? = some (Mo.lst [D.int 0, D.int c]) := by rw [List.getElem?_set_self hlt]
    have l5 : Nat.log2 5 < 9000 := by decide
    have l32 : Nat.log2 32 < 9000 := by decide
    simp [F_law_under, Mi.run, B__law_under, exs, ex, ev, evs, thenE, thenS, bindR, retR, optR, ixD, see, e, L2.atI, L2.ixN, Op.do, cmD, Cm.int, Bi.do, Tg.put, h0, hl, putD, mulD, mulOk, s1, addD, hc, e2, s2, l5, l32]
theorem atI_of {α : Type} {xs : List α} {r : Int} (h0 : 0 ≤ r) (h1 : r < xs.length) : ∃ x ∈ xs, L2.atI xs r = some x := by
  have hl : r.toNat < xs.length := by omega
  refine ⟨xs[r.toNat], List.getElem_mem hl, ?_⟩
  unfold L2.atI L2.ixN
  rw [if_pos h0, if_pos h1, Option.bind_some, List.getElem?_eq_getElem hl]
theorem some_spec {n : Nat} {μ : List Mo} {xs : List D} (v : Vat μ n) (hx : xs ≠ []) (hl : xs.length < 2 ^ 60) : ∃ x ∈ xs, ∃ μ', F_law_some [.obj n, .lst xs] μ = some (.ok x, μ') ∧ Dn n μ μ' := by
  have hp : 0 < xs.length := List.length_pos_iff.mpr hx
  obtain ⟨r, μ', e, d, h0, h1⟩ := under_spec (m := (xs.length : Int)) v (by omega) (by omega)
  obtain ⟨x, hm, ea⟩ := atI_of h0 h1
  refine ⟨x, hm, μ', ?_, d⟩
  simp [F_law_some, Mi.run, B__law_some, exs, ex, ev, evs, thenE, thenS, bindR, retR, optR, Bi.do, lenD, e, ixD, see, ea]
end Dr
set_option Elab.async false
set_option linter.all false
set_option maxRecDepth 100000
set_option maxHeartbeats 4000000
/-! Drb: boards as data of their own; the boards that the laws draw. -/
namespace Dr
open PySem L2 Mi Pg Ev
inductive Src | x | y | c (i : Nat)
def Src.d : Src → D
  | .x => .str "x"
  | .y => .str "y"
  | .c i => .int i
inductive When | card | hole | plain | minor | major
def When.d : When → D
  | .card => .str "card"
  | .hole => .str "hole"
  | .plain => .str "plain"
  | .minor => .str "minor"
  | .major => .str "major"
/-- at a card, not at a break -/
def When.cardy : When → Bool
  | .card => true
  | .hole => true
  | .plain => true
  | _ => false
inductive Act | add (less : Bool) (s : Src) (i : Nat) | clear (i : Nat) | set (i : Nat) (b : Bool) | print (ss : List Src)
def Act.d : Act → D
  | .add l s i => .tup [.str (if l = true then "less" else "add"), s.d, .int i]
  | .clear i => .tup [.str "clear", .int i]
  | .set i b => .tup [.str "set", .int i, .bl b]
  | .print ss => .tup [.str "print", .tup (ss.map Src.d)]
structure Wire where
  when : When
  sw : Option (Nat × Bool)
  act : Act
def swD : Option (Nat × Bool) → D
  | none => .non
  | some (i, b) => .tup [.int i, .bl b]
def Wire.d (w : Wire) : D := .tup [w.when.d, swD w.sw, w.act.d]
structure Board where
  nc : Nat
  ns : Nat
  ws : List Wire
def Board.d (b : Board) : D := .tup [.int b.nc, .int b.ns, .tup (b.ws.map Wire.d)]
def Src.ok (nc : Nat) (w : When) : Src → Prop
  | .c i => i < nc
  | _ => w.cardy = true
def Act.ok (nc ns : Nat) (w : When) : Act → Prop
  | .add _ s i => s.ok nc w ∧ i < nc
  | .clear i => i < nc
  | .set i _ => i < ns
  | .print ss => 1 ≤ ss.length ∧ ss.length ≤ 3 ∧ ∀ s ∈ ss, s.ok nc w
def Wire.ok (nc ns : Nat) (w : Wire) : Prop := (∀ i b, w.sw = some (i, b) → i < ns) ∧ w.act.ok nc ns w.when
structure Board.ok (b : Board) : Prop where
  c : b.nc ≤ 3
  s : b.ns ≤ 2
  l : b.ws.length ≤ 8
  w : ∀ w ∈ b.ws, w.ok b.nc b.ns
/-! ### comprehensions -/
/-- a comprehension without a test whose items are drawn -/
theorem comp_draw {n : Nat} {tg : Tg} {keep elt : List Sl → List Mo → RM D} {δ : List Sl} {Q : D → Prop} (hk : ∀ δ μ, keep δ μ = some (.ok (.bl true), μ)) : ∀ (xs acc : List D) (μ : List Mo), Vat μ n → acc.length + xs.length ≤ sizeLine →
    (∀ x ∈ xs, ∃ δ1, tg.put x δ = some δ1 ∧ ∀ μ, Vat μ n → ∃ d μ', elt δ1 μ = some (.ok d, μ') ∧ Dn n μ μ' ∧ Q d) → ∃ ds μ', compL tg keep elt δ xs acc μ = some (.ok (.lst (acc ++ ds)), μ') ∧ Dn n μ μ' ∧ ds.length = xs.length ∧ ∀ d ∈ ds, Q d
  | [], acc, μ, v, _, _ => ⟨[], μ, by simp [compL, retR], v.dn, rfl, by simp⟩
  | x :: xs, acc, μ, v, hz, h => by
    obtain ⟨δ1, p1, he⟩ := h x List.mem_cons_self
    obtain ⟨d, μ1, e1, d1, q1⟩ := he μ v
    obtain ⟨ds, μ2, e2, d2, hl, hq⟩ := comp_draw hk xs (acc ++ [d]) μ1 d1.vat (by simp at hz ⊢; omega) fun y hy => h y (List.mem_cons_of_mem _ hy)
    have hz2 : acc.length < sizeLine := by simp at hz; omega
    refine ⟨d :: ds, μ2, ?_, d1.trans d2, by simp [hl], fun y hy => ?_⟩
    · simp only [compL, p1, Option.bind_some, hk, noE, e1, if_pos hz2, e2]
      simp
    · rcases List.mem_cons.mp hy with rfl | hy
      · exact q1
      · exact hq y hy
theorem in_when {μ : List Mo} (w : When) : Op.do .in_ μ w.d (.lst [.str "card", .str "hole", .str "plain"]) = some (.bl w.cardy) := by
  cases w <;> kernel_rfl
theorem rg_src {nc : Nat} {w : When} : ∀ x ∈ rgD 0 nc, ∃ s : Src, x = s.d ∧ s.ok nc w := by
  intro x hx
  unfold rgD at hx
  obtain ⟨i, hi, rfl⟩ := List.mem_map.mp hx
  rw [List.mem_range] at hi
  exact ⟨.c i, by simp [Src.d], by show i < nc; omega⟩
/-- the sources that there are -/
def srcL (nc : Nat) (w : When) : List D := rgD 0 nc ++ if w.cardy = true then [.str "x", .str "y", .str "x"] else []
theorem srcL_ok {nc : Nat} {w : When} : ∀ x ∈ srcL nc w, ∃ s : Src, x = s.d ∧ s.ok nc w := by
  intro x hx
  unfold srcL at hx
  rcases List.mem_append.mp hx with hx | hx
  · exact rg_src x hx
  · split at hx
    · rename_i hc
      simp at hx
      rcases hx with rfl | rfl | rfl
      · exact ⟨.x, rfl, hc⟩
      · exact ⟨.y, rfl, hc⟩
      · exact ⟨.x, rfl, hc⟩
    · simp at hx
theorem srcL_len {nc : Nat} {w : When} (h : nc ≤ 3) : (srcL nc w).length ≤ 6 := by
  unfold srcL rgD
  simp
  split <;> simp <;> omega
theorem ok_str (x : Str) (n : Nat) (h : PyData.strOk x = true) : okN n (.str x) = true := by cases n <;> simpa [okN] using h
theorem ok_src (n : Nat) (s : Src) : okN n s.d = true := by
  cases s with
  | x => exact ok_str _ _ (by decide +kernel)
  | y => exact ok_str _ _ (by decide +kernel)
  | c i => cases n <;> rfl
theorem ok_srcL {nc : Nat} {w : When} {n : Nat} : okNs n (srcL nc w) = true := okNs_all fun x hx => by
  obtain ⟨s, rfl, _⟩ := srcL_ok x hx
  exact ok_src n s
theorem srcs_of {nc : Nat} {w : When} : ∀ {ds : List D}, (∀ d ∈ ds, ∃ s : Src, d = s.d ∧ s.ok nc w) → ∃ ss : List Src, ds = ss.map Src.d ∧ ∀ s ∈ ss, s.ok nc w
  | [], _ => ⟨[], rfl, by simp⟩
  | d :: ds, h => by
    obtain ⟨s, rfl, hs⟩ := h d List.mem_cons_self
    obtain ⟨ss, rfl, hss⟩ := srcs_of fun d hd => h d (List.mem_cons_of_mem _ hd)
    exact ⟨s :: ss, rfl, fun t ht => (List.mem_cons.mp ht).elim (fun e => e ▸ hs) (hss t)⟩
def dropS : Nat → Ss → Ss
  | 0, s => s
  | n + 1, .cons _ s => dropS n s
  | _ + 1, .nil => .nil
/-- an action, or none -/
def ActQ (nc ns : Nat) (w : When) (d : D) : Prop := d = .tup [] ∨ ∃ a : Act, d = a.d ∧ a.ok nc ns w
/-- what is returned is drawn from n and so -/
def Gives (n : Nat) (μ : List Mo) (Q : D → Prop) (r : RM D) : Prop := ∃ d μ', r = some (.ok d, μ') ∧ Dn n μ μ' ∧ Q d
theorem Gives.of {n : Nat} {μ μ1 : List Mo} {Q : D → Prop} {r : RM D} (h : Gives n μ1 Q r) (d : Dn n μ μ1) : Gives n μ Q r := by
  obtain ⟨x, μ', e, d', q⟩ := h
  exact ⟨x, μ', e, d.trans d', q⟩
section
variable {n nc ns : Nat} {μ : List Mo} {w : When} {S : List D} {way : Int}
/-- the names in _law_act -/
def actE (n nc ns : Nat) (w : When) (S : List D) (way : Int) : List Sl := [.d (.obj n), .d (.tup [.int nc, .int ns]), .d w.d, .d (.int nc), .d (.int ns), .d (.lst S), .d (.int way), .un, .un, .un]
theorem act7 (v : Vat μ n) (nS : S ≠ []) (lS : S.length ≤ 6) (mS : ∀ x ∈ S, ∃ s : Src, x = s.d ∧ s.ok nc w) : Gives n μ (ActQ nc ns w) (fin (exs (dropS 7 B__law_act) (actE n nc ns w S way) μ)) := by
  obtain ⟨m, hm, μ2, e2, d2⟩ := some_spec (xs := [.int 1, .int 1, .int 2, .int 3]) v (by simp) (by simp)
  have hm : m = .int 1 ∨ m = .int 2 ∨ m = .int 3 := by simpa using hm
  obtain ⟨k, hk, k1, k3⟩ : ∃ k : Nat, m = .int k ∧ 1 ≤ k ∧ k ≤ 3 := by
    rcases hm with rfl | rfl | rfl
    · exact ⟨1, rfl, by omega, by omega⟩
    · exact ⟨2, rfl, by omega, by omega⟩
    · exact ⟨3, rfl, by omega, by omega⟩
  subst hk
  have hrk : rgOk 0 (k : Int) = true := by unfold rgOk; simp; omega
  have lrk : (rgD 0 (k : Int)).length = k := by unfold rgD; simp
  obtain ⟨ds, μ3, e3, d3, l3, q3⟩ := comp_draw (n := n) (tg := .name 9) (keep := ev (.con (.bl true))) (elt := ev (.call F_law_some (.cons (.var 0) (.cons (.var 5) .nil)))) (δ := [.d (.obj n), .d (.tup [.int nc, .int ns]), .d w.d, .d (.int nc), .d (.int ns), .d (.lst S), .d (.int way), .un, .d (.int k), .un]) (Q := fun d => ∃ s : Src, d = s.d ∧ s.ok nc w) (fun δ μ => by simp) (rgD 0 k) [] μ2 d2.vat (by rw [lrk, szL]; show 0 + k ≤ _; omega) (fun x hx => ⟨_, rfl, fun μ v => by
    obtain ⟨d, hd, μ', e, dn⟩ := some_spec (xs := S) v nS (by omega)
    exact ⟨d, μ', by simp [e], dn, mS d hd⟩⟩)
  obtain ⟨ss, rfl, hss⟩ := srcs_of q3
  have hk : ss.length = k := by rw [← lrk, ← l3]; simp
  have ht : (Bi.tuple).do μ3 [.lst (ss.map Src.d)] = some (.tup (ss.map Src.d)) := by simp
  refine ⟨.tup [.str "print", .tup (ss.map Src.d)], μ3, ?_, d2.trans d3, .inr ⟨.print ss, rfl, by omega, by omega, hss⟩⟩
  rw [List.nil_append] at e3
  simp [actE, dropS, B__law_act, szL, e2, hrk, kcomp, wipeS, e3]
theorem act6 (v : Vat μ n) (okS : okNs 63 S = true) (lS : S.length ≤ 6) (mS : ∀ x ∈ S, ∃ s : Src, x = s.d ∧ s.ok nc w) : Gives n μ (ActQ nc ns w) (fin (exs (dropS 6 B__law_act) (actE n nc ns w S way) μ)) := by
  by_cases nS : S = []
  · subst nS
    exact ⟨.tup [], μ, by simp [actE, dropS, B__law_act, szL, eq_lnil (μ := μ) (xs := []) rfl], v.dn, .inl rfl⟩
  · have nSe : S.isEmpty = false := by cases S <;> simp at nS ⊢
    have e : exs (dropS 6 B__law_act) (actE n nc ns w S way) μ = exs (dropS 7 B__law_act) (actE n nc ns w S way) μ := by
      simp [actE, dropS, B__law_act, szL, eq_lnil okS, nSe]
    rw [e]
    exact act7 v nS lS mS
theorem act5 (hs : ns ≤ 2) (v : Vat μ n) (okS : okNs 63 S = true) (lS : S.length ≤ 6) (mS : ∀ x ∈ S, ∃ s : Src, x = s.d ∧ s.ok nc w) : Gives n μ (ActQ nc ns w) (fin (exs (dropS 5 B__law_act) (actE n nc ns w S way) μ)) := by
  by_cases h6 : 0 < ns ∧ way < 7
  · have hs' : (0 : Int) < ns := by omega
    obtain ⟨i, μ2, e2, d2, i0, i1⟩ := under_spec (m := (ns : Int)) v hs' (by omega)
    obtain ⟨k, μ3, e3, d3, _, _⟩ := under_spec (m := 3) d2.vat (by decide) (by decide)
    have ei : (i.toNat : Int) = i := by omega
    exact ⟨.tup [.str "set", .int i, .bl (decide (0 < k))], μ3, by simp [actE, dropS, B__law_act, h6.1, h6.2, e2, e3, szL], d2.trans d3, .inr ⟨.set i.toNat (decide (0 < k)), by simp [Act.d, ei], by show _ < ns; omega⟩⟩
  · have e : exs (dropS 5 B__law_act) (actE n nc ns w S way) μ = exs (dropS 6 B__law_act) (actE n nc ns w S way) μ := by
      by_cases hn : 0 < ns
      · have h7 : ¬ way < 7 := fun z => h6 ⟨hn, z⟩
        simp [actE, dropS, B__law_act, hn, h7]
      · simp [actE, dropS, B__law_act, hn]
    rw [e]
    exact act6 v okS lS mS
theorem act4 (hc : nc ≤ 3) (hs : ns ≤ 2) (v : Vat μ n) (okS : okNs 63 S = true) (lS : S.length ≤ 6) (mS : ∀ x ∈ S, ∃ s : Src, x = s.d ∧ s.ok nc w) : Gives n μ (ActQ nc ns w) (fin (exs (dropS 4 B__law_act) (actE n nc ns w S way) μ)) := by
  by_cases h6 : 0 < nc ∧ way = 4
  · have hn' : (0 : Int) < nc := by omega
    obtain ⟨i, μ2, e2, d2, i0, i1⟩ := under_spec (m := (nc : Int)) v hn' (by omega)
    have ei : (i.toNat : Int) = i := by omega
    exact ⟨.tup [.str "clear", .int i], μ2, by simp [actE, dropS, B__law_act, h6.1, h6.2, e2, szL], d2, .inr ⟨.clear i.toNat, by simp [Act.d, ei], by show _ < nc; omega⟩⟩
  · have e : exs (dropS 4 B__law_act) (actE n nc ns w S way) μ = exs (dropS 5 B__law_act) (actE n nc ns w S way) μ := by
      by_cases hn : 0 < nc
      · have h7 : ¬ way = 4 := fun z => h6 ⟨hn, z⟩
        simp [actE, dropS, B__law_act, hn, h7]
      · simp [actE, dropS, B__law_act, hn]
    rw [e]
    exact act5 hs v okS lS mS
theorem act3 (hc : nc ≤ 3) (hs : ns ≤ 2) (v : Vat μ n) (hS : srcL nc w = S) (okS : okNs 63 S = true) (lS : S.length ≤ 6) (mS : ∀ x ∈ S, ∃ s : Src, x = s.d ∧ s.ok nc w) : Gives n μ (ActQ nc ns w) (fin (exs (dropS 3 B__law_act) (actE n nc ns w S way) μ)) := by
  by_cases h6 : 0 < nc ∧ way < 4
  · have hn' : (0 : Int) < nc := by omega
    have nS : S ≠ [] := by rw [← hS]; unfold srcL rgD; simp; omega
    obtain ⟨wd, hw, μ2, e2, d2⟩ := some_spec (xs := [.str "add", .str "add", .str "less"]) v (by simp) (by simp)
    obtain ⟨sc, hsc, μ3, e3, d3⟩ := some_spec (xs := S) d2.vat nS (by omega)
    obtain ⟨i, μ4, e4, d4, i0, i1⟩ := under_spec (m := (nc : Int)) d3.vat hn' (by omega)
    obtain ⟨s, rfl, hs2⟩ := mS sc hsc
    refine ⟨.tup [wd, s.d, .int i], μ4, by simp [actE, dropS, B__law_act, h6.1, h6.2, e2, e3, e4, szL], (d2.trans d3).trans d4, .inr ?_⟩
    have ei : (i.toNat : Int) = i := by omega
    have hw : wd = .str "add" ∨ wd = .str "less" := by simpa using hw
    rcases hw with rfl | rfl
    · exact ⟨.add false s i.toNat, by simp [Act.d, ei], hs2, by omega⟩
    · exact ⟨.add true s i.toNat, by simp [Act.d, ei], hs2, by omega⟩
  · have e : exs (dropS 3 B__law_act) (actE n nc ns w S way) μ = exs (dropS 4 B__law_act) (actE n nc ns w S way) μ := by
      by_cases hn : 0 < nc
      · have h7 : ¬ way < 4 := fun z => h6 ⟨hn, z⟩
        simp [actE, dropS, B__law_act, hn, h7]
      · simp [actE, dropS, B__law_act, hn]
    rw [e]
    exact act4 hc hs v okS lS mS
theorem act_spec (v : Vat μ n) (hc : nc ≤ 3) (hs : ns ≤ 2) : Gives n μ (ActQ nc ns w) (F_law_act [.obj n, .tup [.int nc, .int ns], w.d] μ) := by
  obtain ⟨way, μ1, e1, d1, w0, w1⟩ := under_spec (m := 9) v (by decide) (by decide)
  have hrg : (nc : Int) ≤ 16777216 := by omega
  have hs3 : ((rgD 0 nc).length + 3 ≤ 16777216) := by unfold rgD; simp; omega
  obtain ⟨S, hS⟩ : ∃ S, srcL nc w = S := ⟨_, rfl⟩
  have pre : F_law_act [.obj n, .tup [.int nc, .int ns], w.d] μ = fin (exs (dropS 3 B__law_act) (actE n nc ns w S way) μ1) := by
    cases hcd : w.cardy with
    | true =>
      have hS1 : rgD 0 nc ++ [.str "x", .str "y", .str "x"] = S := by rw [← hS]; unfold srcL; rw [if_pos hcd]
      simp [F_law_act, B__law_act, go, hrg, e1, in_when, hcd, hs3, szL, hS1]
      simp [actE, dropS]
    | false =>
      have hS0 : rgD 0 nc = S := by rw [← hS]; unfold srcL; rw [hcd]; simp
      simp [F_law_act, B__law_act, go, hrg, e1, in_when, hcd, szL]
      rw [hS0]
      simp [actE, dropS]
  rw [pre]
  exact (act3 hc hs d1.vat hS (by rw [← hS]; exact ok_srcL) (by rw [← hS]; exact srcL_len hc) (by rw [← hS]; exact srcL_ok)).of d1
end
end Dr
set_option Elab.async false
set_option linter.all false
set_option maxRecDepth 100000
set_option maxHeartbeats 4000000
/-! Drc: wires, boards, sources, decks that the laws draw. -/
namespace Dr
open PySem L2 Mi Pg Ev
theorem ok_int (n : Nat) (i : Int) : okN n (.int i) = true := by cases n <;> rfl
theorem ok_bl (n : Nat) (b : Bool) : okN n (.bl b) = true := by cases n <;> rfl
theorem ok_non (n : Nat) : okN n .non = true := by cases n <;> rfl
theorem ok_srcs (n : Nat) (ss : List Src) : okNs n (ss.map Src.d) = true := okNs_all fun x hx => by
  obtain ⟨s, _, rfl⟩ := List.mem_map.mp hx
  exact ok_src n s
theorem ok_act (n : Nat) (a : Act) : okN (n + 2) a.d = true := by
  cases a with
  | add l s i => cases l <;> simp [Act.d, okN, okNs, ok_src, ok_int] <;> decide +kernel
  | clear i => simp [Act.d, okN, okNs, ok_int]; decide +kernel
  | set i b => simp [Act.d, okN, okNs, ok_int, ok_bl]; decide +kernel
  | print ss => simp [Act.d, okN, okNs, ok_srcs]; decide +kernel
theorem ok_when (n : Nat) (w : When) : okN n w.d = true := by cases w <;> exact ok_str _ _ (by decide +kernel)
theorem ok_sw (n : Nat) (s : Option (Nat × Bool)) : okN (n + 1) (swD s) = true := by
  rcases s with _ | ⟨i, b⟩
  · rfl
  · simp [swD, okN, okNs, ok_int, ok_bl]
theorem ok_wire (n : Nat) (w : Wire) : okN (n + 3) w.d = true := by
  simp [Wire.d, okN, okNs, ok_when, ok_act n]
  exact ok_sw (n + 1) w.sw
theorem Act.ne (a : Act) : ∃ x xs, a.d = .tup (x :: xs) := by cases a <;> exact ⟨_, _, rfl⟩
/-- a wire, or none -/
def WireQ (nc ns : Nat) (d : D) : Prop := d = .tup [] ∨ ∃ a : Wire, d = a.d ∧ a.ok nc ns
theorem whens : ∀ x ∈ [D.str "card", .str "card", .str "hole", .str "plain", .str "minor", .str "minor", .str "major"], ∃ w : When, x = w.d := by
  intro x hx
  simp at hx
  rcases hx with rfl | rfl | rfl | rfl | rfl
  · exact ⟨.card, rfl⟩
  · exact ⟨.hole, rfl⟩
  · exact ⟨.plain, rfl⟩
  · exact ⟨.minor, rfl⟩
  · exact ⟨.major, rfl⟩
section
variable {n nc ns : Nat} {μ : List Mo}
theorem wire_spec (v : Vat μ n) (hc : nc ≤ 3) (hs : ns ≤ 2) : Gives n μ (WireQ nc ns) (F_law_wire [.obj n, .tup [.int nc, .int ns]] μ) := by
  obtain ⟨w, hw, μ1, e1, d1⟩ := some_spec (xs := [D.str "card", .str "card", .str "hole", .str "plain", .str "minor", .str "minor", .str "major"]) v (by simp) (by simp)
  obtain ⟨w, rfl⟩ := whens w hw
  obtain ⟨a, μ2, e2, d2, qa⟩ := act_spec (w := w) d1.vat hc hs
  -- the end of the def
  have last : ∀ (sw : Option (Nat × Bool)) (μ3 : List Mo), Dn n μ μ3 → (∀ i b, sw = some (i, b) → i < ns) → Gives n μ (WireQ nc ns) (fin (exs (dropS 3 B__law_wire) [.d (.obj n), .d (.tup [.int nc, .int ns]), .d w.d, .d (swD sw), .d a] μ3)) := fun sw μ3 d3 hsw => by
    rcases qa with rfl | ⟨a, rfl, ha⟩
    · exact ⟨.tup [], μ3, by simp [dropS, B__law_wire, eq_tnil (xs := []) (by rfl), szL], d3, .inl rfl⟩
    · obtain ⟨x, xs, hx⟩ := a.ne
      have ho := ok_act 62 a
      have he : eqD μ3 a.d (.tup []) = some false := by
        rw [hx] at ho ⊢
        exact eq_tnil (by simpa [okN] using ho)
      exact ⟨.tup [w.d, swD sw, a.d], μ3, by simp [dropS, B__law_wire, he, szL], d3, .inr ⟨⟨w, sw, a⟩, rfl, hsw, ha⟩⟩
  by_cases hn : 0 < ns
  · obtain ⟨k, μ3, e3, d3, k0, k1⟩ := under_spec (m := 3) d2.vat (by decide) (by decide)
    by_cases hk : k = 0
    · have hs' : (0 : Int) < ns := by omega
      obtain ⟨i, μ4, e4, d4, i0, i1⟩ := under_spec (m := (ns : Int)) d3.vat hs' (by omega)
      obtain ⟨b, μ5, e5, d5, b0, b1⟩ := under_spec (m := 2) d4.vat (by decide) (by decide)
      have ei : (i.toNat : Int) = i := by omega
      have h := last (some (i.toNat, decide (b = 0))) μ5 ((((d1.trans d2).trans d3).trans d4).trans d5) (by intro i' b' h; simp at h; omega)
      have e : F_law_wire [.obj n, .tup [.int nc, .int ns]] μ = fin (exs (dropS 3 B__law_wire) [.d (.obj n), .d (.tup [.int nc, .int ns]), .d w.d, .d (swD (some (i.toNat, decide (b = 0)))), .d a] μ5) := by
        subst hk
        simp [F_law_wire, B__law_wire, go, e1, e2, hn, e3, e4, e5, szL, swD, ei, dropS]
      rw [e]
      exact h
    · have h := last none μ3 ((d1.trans d2).trans d3) (by simp)
      have e : F_law_wire [.obj n, .tup [.int nc, .int ns]] μ = fin (exs (dropS 3 B__law_wire) [.d (.obj n), .d (.tup [.int nc, .int ns]), .d w.d, .d (swD none), .d a] μ3) := by
        simp [F_law_wire, B__law_wire, go, e1, e2, hn, e3, hk, szL, swD, dropS]
      rw [e]
      exact h
  · have h := last none μ2 (d1.trans d2) (by simp)
    have e : F_law_wire [.obj n, .tup [.int nc, .int ns]] μ = fin (exs (dropS 3 B__law_wire) [.d (.obj n), .d (.tup [.int nc, .int ns]), .d w.d, .d (swD none), .d a] μ2) := by
      simp [F_law_wire, B__law_wire, go, e1, e2, hn, szL, swD, dropS]
    rw [e]
    exact h
/-- those that are wires -/
theorem keep_wires : ∀ (ds : List D) (acc : List Wire) (μ : List Mo) (δ : List Sl) (hδ : δ.length = 6), acc.length + ds.length ≤ sizeLine → (∀ d ∈ ds, WireQ nc ns d) → (∀ w ∈ acc, w.ok nc ns) →
    ∃ ws : List Wire, compL (.name 5) (ev (.op .ne (.var 5) (.tup .nil))) (ev (.var 5)) δ ds (acc.map Wire.d) μ = some (.ok (.lst (ws.map Wire.d)), μ) ∧ ws.length ≤ acc.length + ds.length ∧ ∀ w ∈ ws, w.ok nc ns
  | [], acc, μ, δ, _, _, _, ha => ⟨acc, by simp [compL, retR], by simp, ha⟩
  | d :: ds, acc, μ, δ, hδ, hz, hq, ha => by
    have h5 : (δ.set 5 (.d d))[5]? = some (.d d) := by rw [List.getElem?_set_self (by omega)]
    rcases hq d List.mem_cons_self with rfl | ⟨w, rfl, hw⟩
    · obtain ⟨ws, e, hl, ho⟩ := keep_wires ds acc μ δ hδ (by simp at hz; omega) (fun y hy => hq y (List.mem_cons_of_mem _ hy)) ha
      refine ⟨ws, ?_, by simp; omega, ho⟩
      simp [compL, h5, eq_tnil (xs := []) (by rfl), szL, noE, e]
    · obtain ⟨ws, e, hl, ho⟩ := keep_wires ds (acc ++ [w]) μ δ hδ (by simp at hz ⊢; omega) (fun y hy => hq y (List.mem_cons_of_mem _ hy)) (by
        intro y hy
        rcases List.mem_append.mp hy with hy | hy
        · exact ha y hy
        · rw [List.mem_singleton.mp hy]; exact hw)
      refine ⟨ws, ?_, by simp at hl ⊢; omega, ho⟩
      have ho := ok_wire 61 w
      have he : eqD μ w.d (.tup []) = some false := by
        unfold Wire.d at ho ⊢
        exact eq_tnil (by simpa [okN] using ho)
      have hz2 : acc.length < 16777216 := by rw [szL] at hz; simp at hz; omega
      simp at e
      simp [compL, h5, he, szL, noE, hz2, e]
/-- a board of no more wires than the law says -/
def BoardQ (k : Nat) (d : D) : Prop := ∃ b : Board, d = b.d ∧ b.nc ≤ 2 ∧ b.ns ≤ 1 ∧ b.ws.length ≤ k ∧ ∀ w ∈ b.ws, w.ok b.nc b.ns
theorem board_spec {k : Nat} (v : Vat μ n) (hk : k ≤ 1000) : Gives n μ (BoardQ k) (F_law_board [.obj n, .int k] μ) := by
  obtain ⟨c, hc, μ1, e1, d1⟩ := some_spec (xs := [.int 0, .int 1, .int 1, .int 2, .int 2]) v (by simp) (by simp)
  obtain ⟨s, hs, μ2, e2, d2⟩ := some_spec (xs := [.int 0, .int 0, .int 1]) d1.vat (by simp) (by simp)
  obtain ⟨nc, hnc, c2⟩ : ∃ nc : Nat, c = .int nc ∧ nc ≤ 2 := by
    simp at hc
    rcases hc with rfl | rfl | rfl
    · exact ⟨0, rfl, by omega⟩
    · exact ⟨1, rfl, by omega⟩
    · exact ⟨2, rfl, by omega⟩
  obtain ⟨ns, hns, s2⟩ : ∃ ns : Nat, s = .int ns ∧ ns ≤ 1 := by
    simp at hs
    rcases hs with rfl | rfl
    · exact ⟨0, rfl, by omega⟩
    · exact ⟨1, rfl, by omega⟩
  subst hnc hns
  obtain ⟨m, μ3, e3, d3, m0, m1⟩ := under_spec (m := (k : Int) + 1) d2.vat (by omega) (by omega)
  have hrk : rgOk 0 m = true := by unfold rgOk; simp; omega
  have lrk : (rgD 0 m).length = m.toNat := by unfold rgD; simp
  obtain ⟨ds, μ4, e4, d4, l4, q4⟩ := comp_draw (n := n) (tg := .name 4) (keep := ev (.con (.bl true))) (elt := ev (.call F_law_wire (.cons (.var 0) (.cons (.var 2) .nil)))) (δ := [.d (.obj n), .d (.int k), .d (.tup [.int nc, .int ns]), .un, .un, .un]) (Q := WireQ nc ns) (fun δ μ => by simp) (rgD 0 m) [] μ3 d3.vat (by rw [lrk, szL]; show 0 + _ ≤ _; omega) (fun x hx => ⟨_, rfl, fun μ v => by
    obtain ⟨d, μ', e, dn, q⟩ := wire_spec v (by omega : nc ≤ 3) (by omega : ns ≤ 2)
    exact ⟨d, μ', by simp [e], dn, q⟩⟩)
  rw [List.nil_append] at e4
  obtain ⟨ws, e5, l5, q5⟩ := keep_wires ds [] μ4 [.d (.obj n), .d (.int k), .d (.tup [.int nc, .int ns]), .d (.lst ds), .un, .un] rfl (by rw [l4, lrk, szL]; show 0 + _ ≤ _; omega) q4 (by simp)
  refine ⟨(⟨nc, ns, ws⟩ : Board).d, μ4, ?_, ((d1.trans d2).trans d3).trans d4, ⟨nc, ns, ws⟩, rfl, c2, s2, ?_, q5⟩
  · simp [F_law_board, B__law_board, go, e1, e2, e3, hrk, kcomp, wipeS, e4, szL]
    simp at e5
    simp [e5, Board.d, szL]
  · show ws.length ≤ k
    rw [l4, lrk] at l5
    simp at l5
    omega
end
end Dr
set_option Elab.async false
set_option linter.all false
set_option maxRecDepth 100000
set_option maxHeartbeats 4000000
/-! Ise: boards that are boards. -/
namespace Dr
open PySem L2 Mi Pg Ev
section
variable {μ : List Mo} {i : Int} {xs : List D} {b : Bool} {z : Str}
@[simp] theorem isi_ii : Bi.do .isi μ [.int i, .ty "int"] = some (.bl true) := nr rfl
@[simp] theorem isi_ib : Bi.do .isi μ [.int i, .ty "bool"] = some (.bl false) := nr rfl
@[simp] theorem isi_is : Bi.do .isi μ [.int i, .ty "str"] = some (.bl false) := nr rfl
@[simp] theorem isi_ss : Bi.do .isi μ [.str z, .ty "str"] = some (.bl true) := nr rfl
@[simp] theorem isi_tt : Bi.do .isi μ [.tup xs, .ty "tuple"] = some (.bl true) := nr rfl
@[simp] theorem isi_bb : Bi.do .isi μ [.bl b, .ty "bool"] = some (.bl true) := nr rfl
end
section
variable {μ : List Mo} {nc ns : Nat} {r : D} {w : When}
theorem comp_none {tg : Tg} {keep elt : List Sl → List Mo → RM D} {δ : List Sl} : ∀ (xs : List D), (∀ x ∈ xs, ∃ δ1, tg.put x δ = some δ1 ∧ keep δ1 μ = some (.ok (.bl false), μ)) → compL tg keep elt δ xs [] μ = some (.ok (.lst []), μ)
  | [], _ => by simp [compL, retR]
  | x :: xs, h => by
    obtain ⟨δ1, p, k⟩ := h x List.mem_cons_self
    simp [compL, p, k, noE, comp_none xs fun y hy => h y (List.mem_cons_of_mem _ hy)]
end
end Dr
set_option Elab.async false
set_option linter.all false
set_option maxRecDepth 100000
set_option maxHeartbeats 4000000
/-! Wrt: boards written as texts. -/
namespace Dr
open PySem L2 Mi Pg Ev
/-- the signs of a number -/
def dg (i : Nat) : Str := Str.ofString (toString (i : Int))
def Src.t : Src → Str
  | .x => "x"
  | .y => "y"
  | .c i => dg i
def When.t : When → Str
  | .card => "card"
  | .hole => "hole"
  | .plain => "plain"
  | .minor => "minor"
  | .major => "major"
def Act.ws : Act → List Str
  | .add l s i => [if l = true then "less" else "add", s.t, dg i]
  | .clear i => ["clear", dg i]
  | .set i b => [if b = true then "on" else "off", dg i]
  | .print ss => "print" :: ss.map Src.t
def swW : Option (Nat × Bool) → List Str
  | none => []
  | some (i, b) => [if b = true then "if" else "unless", dg i]
def Wire.ws (w : Wire) : List Str := [w.when.t] ++ swW w.sw ++ w.act.ws
def Wire.t (w : Wire) : Str := Txt.join " " w.ws
def Board.hd (b : Board) : Str := "board " ++ dg b.nc ++ " " ++ dg b.ns
def Board.ls (b : Board) : List Str := b.hd :: b.ws.map Wire.t
def Board.t (b : Board) : Str := Txt.join "\n" b.ls
/-! ### numbers and sources as texts -/
section
variable {μ : List Mo} {nc ns : Nat}
theorem cut1 {α : Type} (x : α) (xs : List α) : cutL (x :: xs) (some 1) none = xs := by
  unfold cutL
  have e : HT.sIx (x :: xs).length 0 (some 1) = 1 := by
    have := HT.sIx_nat (x :: xs).length 0 1
    rw [show ((1 : Nat) : Int) = 1 from rfl] at this
    rw [this]; simp
  rw [e, HT.sIx_none]
  simp
/-! ### the words there are -/
/-! ### the words of a wire, written by the law -/
end
end Dr
set_option Elab.async false
set_option linter.all false
set_option maxRecDepth 100000
set_option maxHeartbeats 4000000
/-! Mca: machines with boards, in plain terms; what the program's defs come to there. -/
namespace Mm
open PySem L2 Mi Pg Ev Dr
abbrev Key := Int × Int
def keyD (k : Key) : D := .tup [.int k.1, .int k.2]
def koD : Option Key → D
  | none => .non
  | some k => keyD k
/-- what counters count in -/
class Nm (α : Type) where
  z : α
  a : α → α → α
  n : α → α
instance : Nm Int := ⟨0, fun a b => a + b, fun a => -a⟩
@[simp] theorem nm_z : (Nm.z : Int) = 0 := rfl
@[simp] theorem nm_a (a b : Int) : Nm.a a b = a + b := rfl
@[simp] theorem nm_n (a : Int) : Nm.n a = -a := rfl
structure Card (α : Type) where
  k : Key
  h : Bool
  x : α
  y : α
def Card.d (c : Card Int) : D := .tup [.int c.k.1, .int c.k.2, .bl c.h, .int c.x, .int c.y]
/-- which wires are gone through -/
inductive Tm | card (h : Bool) | brk (m : Bool)
def Tm.has : Tm → When → Bool
  | .card _, .card => true
  | .card h, .hole => h
  | .card h, .plain => !h
  | .brk _, .minor => true
  | .brk m, .major => m
  | _, _ => false
def Tm.ws : Tm → List D
  | .card h => [.str "card", if h = true then .str "hole" else .str "plain"]
  | .brk m => if m = true then [.str "minor", .str "major"] else [.str "minor"]
/-- counters and switches -/
structure St (α : Type) where
  cs : List α
  ss : List Bool
def St.c (s : St Int) : D := .tup (s.cs.map .int)
def St.s {α : Type} (s : St α) : D := .tup (s.ss.map .bl)
def St.ok {α : Type} (nc ns : Nat) (s : St α) : Prop := s.cs.length = nc ∧ s.ss.length = ns
/-- a line that is printed: items, key, by a wire with major, the wire -/
structure Pr (α : Type) where
  items : List α
  k : Key
  m : Bool
  ix : Nat
def Pr.it (p : Pr Int) : D := .tup (p.items.map .int)
def Pr.hd {α : Type} (p : Pr α) : D := .tup [.int p.k.1, .int p.k.2, .bl p.m]
def Pr.d (p : Pr Int) : D := .tup [p.it, p.hd, .int p.ix]
/-! ### facts on lists -/
theorem atI_map {α β : Type} (f : α → β) (d : α) {xs : List α} {i : Nat} (h : i < xs.length) : L2.atI (xs.map f) (i : Int) = some (f (xs.getD i d)) := by
  unfold L2.atI L2.ixN
  rw [if_pos (by omega), if_pos (by simp; omega), Option.bind_some]
  simp [h]
theorem cut_take {α : Type} (xs : List α) (i : Nat) : cutL xs none (some (i : Int)) = xs.take i := by
  unfold cutL
  rw [HT.sIx_none, HT.sIx_nat]
  simp
theorem cut_drop {α : Type} (xs : List α) (i : Nat) : cutL xs (some (i : Int)) none = xs.drop i := by
  unfold cutL
  rw [HT.sIx_none, HT.sIx_nat]
  rcases Nat.le_total i xs.length with h | h
  · rw [Nat.min_eq_left h, List.take_of_length_le (by simp)]
  · rw [Nat.min_eq_right h]; simp [List.drop_eq_nil_of_le h]
theorem cut2 {α : Type} (x y : α) (xs : List α) : cutL (x :: y :: xs) none (some 2) = [x, y] := by
  have := cut_take (x :: y :: xs) 2
  simpa using this
section
variable {μ : List Mo} {nc ns : Nat}
theorem eq_bl {a b : Bool} : eqD μ (.bl a) (.bl b) = some (a == b) := by
  rw [eqD_ok (by rfl) (by rfl)]
  rfl
theorem eq_str {z w : Str} (h : PyData.strOk z = true) (h2 : PyData.strOk w = true) : eqD μ (.str z) (.str w) = some (z == w) := by
  rw [eqD_ok (ok_str z 64 h) (ok_str w 64 h2)]
  rfl
theorem eq_key {a b : Key} : eqD μ (keyD a) (keyD b) = some (decide (a = b)) := by
  rw [eqD_ok (by rfl) (by rfl)]
  obtain ⟨a1, a2⟩ := a
  obtain ⟨b1, b2⟩ := b
  simp only [keyD, eqb, eqbs, Prod.mk.injEq, Bool.and_true, Bool.decide_and]
  rfl
end
end Mm
set_option Elab.async false
set_option linter.all false
set_option maxRecDepth 100000
set_option maxHeartbeats 4000000
/-! Mcb: wires gone through, cards fed, rows: by the program. -/
namespace Mm
open PySem L2 Mi Pg Ev Dr
end Mm
set_option Elab.async false
set_option linter.all false
set_option maxRecDepth 100000
set_option maxHeartbeats 4000000
/-! Mcc: cards fed, rows of boards, sheets: by the program. -/
namespace Mm
open PySem L2 Mi Pg Ev Dr
structure Sd (α : Type) where
  s : St α
  k : Option Key
def Sd.d (t : Sd Int) : D := .tup [t.s.c, t.s.s, koD t.k]
section
variable {α : Type} [Nm α]
inductive Row | one (a : Board) | two (a b : Board)
end
def Row.d : Row → D
  | .one a => .tup [a.d]
  | .two a b => .tup [a.d, b.d]
def Sd.ok {α : Type} (b : Board) (t : Sd α) : Prop := t.s.ok b.nc b.ns
/-! ### lengths and forms -/
section
variable {α : Type} [Nm α] {b : Board}
def Row.ok : Row → Prop
  | .one a => a.ok
  | .two a b => a.ok ∧ b.ok ∧ a.ws.length + b.ws.length ≤ 8
end
/-! ### the program -/
section
variable {μ : List Mo} {b : Board}
theorem sl_key {k : Key} {h : Bool} {x y : Int} : slD μ (Card.d ⟨k, h, x, y⟩) none (some 2) = some (keyD k) := by simp [Card.d, cut2, keyD]
end
end Mm
set_option Elab.async false
set_option linter.all false
set_option maxRecDepth 100000
set_option maxHeartbeats 4000000
/-! Mcd: rows of boards, sheets: by the program. -/
namespace Mm
open PySem L2 Mi Pg Ev Dr
section
variable {μ : List Mo} {b : Board} {r : Row}
theorem rep_flat {α : Type} (n : Nat) (x : α) : (List.replicate n [x]).flatten = List.replicate n x := by
  induction n with
  | zero => rfl
  | succ n ih => simp [List.replicate_succ, ih]
theorem mul_rep {x : D} {n : Nat} (h : n ≤ 1000) : mulD (.tup [x]) (.int n) = some (.tup (List.replicate n x)) := by
  show (if (decide (-(2 ^ 63) ≤ (n : Int)) && decide ((n : Int) ≤ 1000) && decide ([x].length ≤ 1000)) = true then some (D.tup (List.replicate (n : Int).toNat [x]).flatten) else none) = _
  rw [if_pos (by simp; omega), Int.toNat_natCast, rep_flat]
end
end Mm
set_option Elab.async false
set_option linter.all false
set_option maxRecDepth 100000
set_option maxHeartbeats 4000000
/-! Mce: the laws' own machine: a dict with lists that change. -/
namespace Mm
open PySem L2 Mi Pg Ev Dr
/-- only these three are otherwise -/
structure Ch (n : Nat) (μ μ' : List Mo) : Prop where
  len : μ'.length = μ.length
  oth : ∀ m, (m < n ∨ n + 3 ≤ m) → μ'[m]? = μ[m]?
theorem Ch.refl {n : Nat} {μ : List Mo} : Ch n μ μ := ⟨rfl, fun _ _ => rfl⟩
theorem Ch.trans {n : Nat} {μ μ1 μ2 : List Mo} (a : Ch n μ μ1) (b : Ch n μ1 μ2) : Ch n μ μ2 := ⟨b.len.trans a.len, fun m h => (b.oth m h).trans (a.oth m h)⟩
theorem Ch.set {n k : Nat} {μ : List Mo} {o : Mo} (h : n ≤ k) (h2 : k < n + 3) : Ch n μ (μ.set k o) := ⟨by simp, fun m hm => by rw [List.getElem?_set_ne (by omega)]⟩
end Mm
set_option Elab.async false
set_option linter.all false
set_option maxRecDepth 100000
set_option maxHeartbeats 4000000
/-! Mcf: the laws' own machine: cards, rows, sheets. -/
namespace Mm
open PySem L2 Mi Pg Ev Dr
section
variable {n : Nat} {b : Board} {μ : List Mo}
theorem sl_key5 {c : Card Int} : slD μ c.d none (some 2) = some (keyD c.k) := by obtain ⟨k, h, x, y⟩ := c; exact sl_key
/-- memory that only grows -/
structure Gr (μ μ' : List Mo) : Prop where
  le : μ.length ≤ μ'.length
  old : ∀ m, m < μ.length → μ'[m]? = μ[m]?
theorem Gr.refl {μ : List Mo} : Gr μ μ := ⟨Nat.le_refl _, fun _ _ => rfl⟩
theorem Gr.trans {μ μ1 μ2 : List Mo} (a : Gr μ μ1) (b : Gr μ1 μ2) : Gr μ μ2 := ⟨Nat.le_trans a.le b.le, fun m h => (b.old m (Nat.lt_of_lt_of_le h a.le)).trans (a.old m h)⟩
theorem Gr.app {μ l : List Mo} : Gr μ (μ ++ l) := ⟨by simp, fun m h => by rw [List.getElem?_append_left h]⟩
end
end Mm
set_option Elab.async false
set_option linter.all false
set_option maxRecDepth 100000
set_option maxHeartbeats 4000000
/-! Mcg: rows of the laws' machines, sheets. -/
namespace Mm
open PySem L2 Mi Pg Ev Dr
section
variable {n : Nat} {r : Row} {μ : List Mo}
theorem comp_cons {tg : Tg} {keep elt : List Sl → List Mo → RM D} {δ δ1 : List Sl} {x d : D} {xs acc : List D} {μ μ1 μ2 : List Mo} (p : tg.put x δ = some δ1) (k : keep δ1 μ = some (.ok (.bl true), μ1)) (e : elt δ1 μ1 = some (.ok d, μ2)) (hz : acc.length < sizeLine) : compL tg keep elt δ (x :: xs) acc μ = compL tg keep elt δ xs (acc ++ [d]) μ2 := by
  simp [compL, p, k, noE, e]
  exact fun h => absurd hz (by omega)
theorem comp_nil {tg : Tg} {keep elt : List Sl → List Mo → RM D} {δ : List Sl} {acc : List D} {μ : List Mo} : compL tg keep elt δ [] acc μ = some (.ok (.lst acc), μ) := by simp [compL, retR]
end
end Mm
set_option Elab.async false
set_option linter.all false
set_option maxRecDepth 100000
set_option maxHeartbeats 4000000
/-! Dka: decks and rows that are, and that are none; decks drawn. -/
namespace Mm
open PySem L2 Mi Pg Ev Dr
/-- keys that do not fall -/
def kle (a b : Key) : Prop := a.1 < b.1 ∨ (a.1 = b.1 ∧ a.2 ≤ b.2)
structure Card.ok (c : Card Int) : Prop where
  j0 : 0 ≤ c.k.1
  j1 : c.k.1 ≤ 1000000000
  n0 : 0 ≤ c.k.2
  n1 : c.k.2 ≤ 1000000000
  x0 : -1000000000000000000000000000000 ≤ c.x
  x1 : c.x ≤ 1000000000000000000000000000000
  y0 : -1000000000000000000000000000000 ≤ c.y
  y1 : c.y ≤ 1000000000000000000000000000000
structure DeckOk (cs : List (Card Int)) : Prop where
  len : cs.length ≤ 40
  all : ∀ c ∈ cs, c.ok
  asc : (cs.map Card.k).Pairwise kle
section
variable {μ : List Mo}
/-- a comprehension with a test -/
theorem comp_keep {α : Type} {p : α → Bool} {f g : α → D} {tg : Tg} {keep elt : List Sl → List Mo → RM D} {δ : List Sl} : ∀ (xs : List α) (acc : List D), acc.length + xs.length ≤ sizeLine →
    (∀ x ∈ xs, ∃ δ1, tg.put (f x) δ = some δ1 ∧ keep δ1 μ = some (.ok (.bl (p x)), μ) ∧ (p x = true → elt δ1 μ = some (.ok (g x), μ))) → compL tg keep elt δ (xs.map f) acc μ = some (.ok (.lst (acc ++ (xs.filter p).map g)), μ)
  | [], acc, _, _ => by simp [compL, retR]
  | x :: xs, acc, hz, h => by
    obtain ⟨δ1, q, k, e⟩ := h x List.mem_cons_self
    have hz2 : acc.length < sizeLine := by simp at hz; omega
    cases hp : p x with
    | true =>
      rw [hp] at k
      rw [List.map_cons, comp_cons q k (e hp) hz2, comp_keep xs (acc ++ [g x]) (by simp at hz ⊢; omega) fun y hy => h y (List.mem_cons_of_mem _ hy)]
      simp [hp]
    | false =>
      rw [hp] at k
      simp [compL, q, k, noE, comp_keep xs acc (by simp at hz; omega) fun y hy => h y (List.mem_cons_of_mem _ hy), hp]
theorem pow9 : Op.do .pow μ (.int 10) (.int 9) = some (.int 1000000000) := by kernel_rfl
theorem pow12 : Op.do .pow μ (.int 10) (.int 12) = some (.int 1000000000000) := by kernel_rfl
theorem need_deck_no {d : D} (h : Fis_deck [d] μ = some (.ok (.bl false), μ)) : Fneed_deck [d] μ = some (.error ("InvalidDeck", none), μ) := by
  simp [Fneed_deck, B_need_deck, go, h]
end
end Mm
set_option Elab.async false
set_option linter.all false
set_option maxRecDepth 100000
set_option maxHeartbeats 4000000
/-! Dkb: decks drawn. -/
namespace Mm
open PySem L2 Mi Pg Ev Dr
def bodyPack : Ss := match B__law_pack with
  | .cons _ (.cons (.for_ _ _ b) _) => b
  | _ => .nil
/-- what the loop keeps -/
structure PackI (B : Int) (cs : List (Card Int)) (j m : Int) : Prop where
  all : ∀ c ∈ cs, c.ok
  asc : (cs.map Card.k).Pairwise kle
  top : ∀ c ∈ cs, kle c.k (j, m)
  j0 : 0 ≤ j
  j1 : j ≤ B
  m0 : 0 ≤ m
  m1 : m ≤ B
theorem kle_trans {a b c : Key} (h : kle a b) (g : kle b c) : kle a c := by
  unfold kle at *; omega
theorem PackI.up {B B' : Int} {cs : List (Card Int)} {j m j' m' : Int} (h : PackI B cs j m) (k : kle (j, m) (j', m')) (j0 : 0 ≤ j') (j1 : j' ≤ B') (m0 : 0 ≤ m') (m1 : m' ≤ B') : PackI B' cs j' m' :=
  ⟨h.all, h.asc, fun c hc => kle_trans (h.top c hc) k, j0, j1, m0, m1⟩
theorem PackI.push {B : Int} {cs : List (Card Int)} {j m : Int} (h : PackI B cs j m) (hB : B ≤ 1000000) {x y : Int} {b : Bool} (x0 : -1000000000000000000000000000000 ≤ x) (x1 : x ≤ 1000000000000000000000000000000) (y0 : -1000000000000000000000000000000 ≤ y) (y1 : y ≤ 1000000000000000000000000000000) : PackI B (cs ++ [⟨(j, m), b, x, y⟩]) j m := by
  have h1 := h.j1
  have h2 := h.m1
  refine ⟨fun c hc => ?_, ?_, fun c hc => ?_, h.j0, h.j1, h.m0, h.m1⟩
  · rcases List.mem_append.mp hc with hc | hc
    · exact h.all c hc
    · simp at hc
      subst hc
      exact ⟨h.j0, by show j ≤ _; omega, h.m0, by show m ≤ _; omega, x0, x1, y0, y1⟩
  · rw [List.map_append, List.pairwise_append]
    refine ⟨h.asc, by simp, fun a ha b hb => ?_⟩
    simp at hb
    subst hb
    obtain ⟨c, hc, rfl⟩ := List.mem_map.mp ha
    exact h.top c hc
  · rcases List.mem_append.mp hc with hc | hc
    · exact h.top c hc
    · simp at hc
      subst hc
      exact .inr ⟨rfl, Int.le_refl _⟩
theorem nums_x : ∀ d ∈ [D.int 0, .int 1, .int 2, .int (-3), .int 7, .int 1000000000000, .int (-1)], ∃ i : Int, d = .int i ∧ -1000000000000 ≤ i ∧ i ≤ 1000000000000 := by
  intro d hd
  simp at hd
  rcases hd with rfl | rfl | rfl | rfl | rfl | rfl | rfl <;> exact ⟨_, rfl, by decide, by decide⟩
theorem nums_y : ∀ d ∈ [D.int 0, .int 1, .int 2, .int (-5), .int 1000000000], ∃ i : Int, d = .int i ∧ -1000000000000 ≤ i ∧ i ≤ 1000000000000 := by
  intro d hd
  simp at hd
  rcases hd with rfl | rfl | rfl | rfl | rfl <;> exact ⟨_, rfl, by decide, by decide⟩
theorem pack_end {n : Nat} {μ : List Mo} (v : Vat μ n) {B : Int} {cs : List (Card Int)} {j m : Int} (h : PackI B cs j m) (hB : B ≤ 1000000) (hl : cs.length ≤ 1000) {mo tn wy a b : Sl} :
    ∃ x y bb μ' cd, exs (dropS 3 bodyPack) [.d (.obj n), mo, .d (.tup (cs.map Card.d)), .d (.int j), .d (.int m), tn, wy, a, b] μ = some (.nx, [.d (.obj n), mo, .d (.tup ((cs ++ [(⟨(j, m), bb, x, y⟩ : Card Int)]).map Card.d)), .d (.int j), .d (.int m), tn, wy, .d (.int x), .d cd], μ') ∧ Dn n μ μ' ∧ PackI B (cs ++ [⟨(j, m), bb, x, y⟩]) j m := by
  obtain ⟨dx, hx, μ1, e1, d1⟩ := some_spec (xs := [D.int 0, .int 1, .int 2, .int (-3), .int 7, .int 1000000000000, .int (-1)]) v (by simp) (by simp)
  obtain ⟨x, rfl, x0, x1⟩ := nums_x dx hx
  obtain ⟨q, μ2, e2, d2, q0, q1⟩ := under_spec (m := 2) d1.vat (by decide) (by decide)
  obtain ⟨dy, hy, μ3, e3, d3⟩ := some_spec (xs := [D.int 0, .int 1, .int 2, .int (-5), .int 1000000000]) d2.vat (by simp) (by simp)
  obtain ⟨y, rfl, y0, y1⟩ := nums_y dy hy
  refine ⟨x, y, decide (q = 0), μ3, Card.d ⟨(j, m), decide (q = 0), x, y⟩, ?_, (d1.trans d2).trans d3, h.push hB (by omega) (by omega) (by omega) (by omega)⟩
  have z1 : cs.length + 1 ≤ 16777216 := by omega
  simp [dropS, bodyPack, B__law_pack, pow12, pow9, szL, e1, e2, e3, z1]
  simp [Card.d]
theorem pack_loop {n : Nat} {mo : Sl} : ∀ (xs : List D) (cs : List (Card Int)) (j m B : Int) (μ : List Mo) (a1 a2 a3 a4 : Sl), Vat μ n → PackI B cs j m → B + 4 * xs.length ≤ 1000000 → cs.length + xs.length ≤ 1000 →
    ∃ (cs' : List (Card Int)) (j' m' : Int) (μ' : List Mo) (a1' a2' a3' a4' : Sl), forL (.name 5) (exs bodyPack) xs [.d (.obj n), mo, .d (.tup (cs.map Card.d)), .d (.int j), .d (.int m), a1, a2, a3, a4] μ = some (.nx, [.d (.obj n), mo, .d (.tup (cs'.map Card.d)), .d (.int j'), .d (.int m'), a1', a2', a3', a4'], μ') ∧ Dn n μ μ' ∧ cs'.length = cs.length + xs.length ∧ (∀ c ∈ cs', c.ok) ∧ (cs'.map Card.k).Pairwise kle
  | [], cs, j, m, B, μ, a1, a2, a3, a4, v, h, _, _ => ⟨cs, j, m, μ, a1, a2, a3, a4, by simp [forL], v.dn, by simp, h.all, h.asc⟩
  | t :: xs, cs, j, m, B, μ, a1, a2, a3, a4, v, h, hB, hl => by
    simp only [List.length_cons] at hB hl
    obtain ⟨w, μ1, e1, d1, w0, w1⟩ := under_spec (m := 4) v (by decide) (by decide)
    have j0 := h.j0
    have j1 := h.j1
    have m0 := h.m0
    have m1 := h.m1
    -- what comes behind the choice
    have rest : ∀ (j' m' : Int) (μ2 : List Mo), Dn n μ μ2 → PackI (B + 4) cs j' m' → exs bodyPack [.d (.obj n), mo, .d (.tup (cs.map Card.d)), .d (.int j), .d (.int m), .d t, a2, a3, a4] μ = exs (dropS 3 bodyPack) [.d (.obj n), mo, .d (.tup (cs.map Card.d)), .d (.int j'), .d (.int m'), .d t, .d (.int w), a3, a4] μ2 →
        ∃ (cs' : List (Card Int)) (j' m' : Int) (μ' : List Mo) (a1' a2' a3' a4' : Sl), forL (.name 5) (exs bodyPack) (t :: xs) [.d (.obj n), mo, .d (.tup (cs.map Card.d)), .d (.int j), .d (.int m), a1, a2, a3, a4] μ = some (.nx, [.d (.obj n), mo, .d (.tup (cs'.map Card.d)), .d (.int j'), .d (.int m'), a1', a2', a3', a4'], μ') ∧ Dn n μ μ' ∧ cs'.length = cs.length + (t :: xs).length ∧ (∀ c ∈ cs', c.ok) ∧ (cs'.map Card.k).Pairwise kle := by
      intro j' m' μ2 d2 h2 e
      obtain ⟨x, y, bb, μ3, cd, e3, d3, h3⟩ := pack_end d2.vat h2 (by omega) (by omega) (mo := mo) (tn := .d t) (wy := .d (.int w)) (a := a3) (b := a4)
      obtain ⟨cs', j'', m'', μ4, b1, b2, b3, b4, e4, d4, l4, al, as⟩ := pack_loop xs (cs ++ [⟨(j', m'), bb, x, y⟩]) j' m' (B + 4) μ3 (.d t) (.d (.int w)) (.d (.int x)) (.d cd) d3.vat h3 (by omega) (by simp; omega)
      refine ⟨cs', j'', m'', μ4, b1, b2, b3, b4, ?_, (d2.trans d3).trans d4, by simp at l4 ⊢; omega, al, as⟩
      rw [← e4]
      simp only [forL, p_name, Option.bind_some, List.set_cons_succ, List.set_cons_zero, e, e3]
    by_cases h2 : w = 2
    · obtain ⟨q, μ2, e2, d2, q0, q1⟩ := under_spec (m := 2) d1.vat (by decide) (by decide)
      refine rest j (m + 1 + q) μ2 (d1.trans d2) (h.up (.inr ⟨rfl, by show m ≤ _; omega⟩) j0 (by omega) (by omega) (by omega)) ?_
      subst h2
      simp [dropS, bodyPack, B__law_pack, e1, e2]
    · by_cases h3 : w = 3
      · obtain ⟨q, μ2, e2, d2, q0, q1⟩ := under_spec (m := 2) d1.vat (by decide) (by decide)
        obtain ⟨p, μ3, e3, d3, p0, p1⟩ := under_spec (m := 3) d2.vat (by decide) (by decide)
        refine rest (j + 1 + q) p μ3 ((d1.trans d2).trans d3) (h.up (.inl (by show j < _; omega)) (by omega) (by omega) (by omega) (by omega)) ?_
        subst h3
        simp [dropS, bodyPack, B__law_pack, e1, e2, e3, szL]
      · refine rest j m μ1 d1 (h.up (.inr ⟨rfl, Int.le_refl _⟩) j0 (by omega) m0 (by omega)) ?_
        simp [dropS, bodyPack, B__law_pack, e1, h2, h3]
def PackQ (k : Nat) (d : D) : Prop := ∃ cs : List (Card Int), d = .tup (cs.map Card.d) ∧ DeckOk cs ∧ cs.length ≤ k
theorem pack_spec {n k : Nat} {μ : List Mo} (v : Vat μ n) (hk : k ≤ 40) : Gives n μ (PackQ k) (F_law_pack [.obj n, .int k] μ) := by
  obtain ⟨j, μ1, e1, d1, j0, j1⟩ := under_spec (m := 2) v (by decide) (by decide)
  obtain ⟨m, μ2, e2, d2, m0, m1⟩ := under_spec (m := 3) d1.vat (by decide) (by decide)
  obtain ⟨q, μ3, e3, d3, q0, q1⟩ := under_spec (m := (k : Int) + 1) d2.vat (by omega) (by omega)
  have hrk : rgOk 0 q = true := by unfold rgOk; simp; omega
  have lrk : (rgD 0 q).length = q.toNat := by unfold rgD; simp
  obtain ⟨cs, j', m', μ4, a1, a2, a3, a4, e4, d4, l4, al, as⟩ := pack_loop (mo := .d (.int k)) (rgD 0 q) [] j m 3 μ3 .un .un .un .un d3.vat ⟨by simp, by simp, by simp, j0, by omega, m0, by omega⟩ (by rw [lrk]; omega) (by rw [lrk]; simp; omega)
  refine ⟨.tup (cs.map Card.d), μ4, ?_, ((d1.trans d2).trans d3).trans d4, cs, rfl, ⟨by rw [l4, lrk]; simp; omega, al, as⟩, by rw [l4, lrk]; simp; omega⟩
  simp [bodyPack, B__law_pack] at e4
  simp [F_law_pack, B__law_pack, go, e1, e2, e3, hrk, x_kfor, e4, szL]
end Mm
set_option Elab.async false
set_option linter.all false
set_option maxRecDepth 100000
set_option maxHeartbeats 4000000
/-! Wrp: boards written by the program, and the law's lines. -/
namespace Dr
open PySem L2 Mi Pg Ev
end Dr
set_option Elab.async false
set_option linter.all false
set_option maxRecDepth 100000
set_option maxHeartbeats 4000000
/-! Wrr: texts of boards read. -/
namespace Dr
open PySem L2 Mi Pg Ev
/-! ### joined texts -/
theorem sok (z : Str) : PyData.strOk z = true ↔ ∀ c ∈ TL.tl z, c < 1114112 := by
  unfold PyData.strOk TL.tl
  rw [← Array.all_toList, List.all_eq_true]
  simp only [decide_eq_true_eq]
end Dr
set_option Elab.async false
set_option linter.all false
set_option maxRecDepth 100000
set_option maxHeartbeats 4000000
/-! Wrs: texts of boards read back. -/
namespace Dr
open PySem L2 Mi Pg Ev
end Dr
set_option Elab.async false
set_option linter.all false
set_option maxRecDepth 100000
set_option maxHeartbeats 4000000
/-! Wru: boards read back. -/
namespace Dr
open PySem L2 Mi Pg Ev
end Dr
set_option Elab.async false
set_option linter.all false
set_option maxRecDepth 100000
set_option maxHeartbeats 4000000
/-! Wrv: what draws come from. -/
namespace Dr
open PySem L2 Mi Pg Ev
section
variable {μ : List Mo}
theorem pow18 : Op.do .pow μ (.int 10) (.int 18) = some (.int 1000000000000000000) := by kernel_rfl
theorem mul_s {i j : Int} (h : small64 j = true) : mulD (.int i) (.int j) = some (.int (i * j)) := by
  show (if mulOk i j = true then _ else _) = _
  rw [if_pos (by unfold mulOk; rw [h]; simp)]
theorem mul_t {i j : Int} (h : small64 i = true) : mulD (.int i) (.int j) = some (.int (i * j)) := by
  show (if mulOk i j = true then _ else _) = _
  rw [if_pos (by unfold mulOk; rw [h]; simp)]
/-- a thing that comes anew -/
def VatNew (μ μ' : List Mo) : Prop := ∃ a b : Int, μ' = μ ++ [.lst [.int a, .int b]] ∧ 0 ≤ a ∧ 0 ≤ b ∧ b < 2 ^ 32
theorem vat_end {ns : List Int} {k : Nat} (hk : k ≤ 1000) {c : Int} (hc : 0 ≤ c) : ∃ μ', fin (exs (dropS 2 B__law_vat) [.d (.scr ns), .d (.int k), .d (.int c)] μ) = some (.ok (.obj μ.length), μ') ∧ VatNew μ μ' := by
  have s1 : small64 131071 = true := by decide
  have s2 : small64 8191 = true := by decide
  have hd : (0 : Int) < 2147483629 := by decide
  obtain ⟨b, hb⟩ : ∃ b, (c * 131071 + 8191 * k + 5) % 2147483629 = b := ⟨_, rfl⟩
  have b0 : 0 ≤ b := by rw [← hb]; exact Int.emod_nonneg _ (by decide)
  have b1 : b < 2147483629 := by rw [← hb]; exact Int.emod_lt_of_pos _ hd
  by_cases h : 1000000000000000000 ≤ c
  · refine ⟨_, ?_, c, b + 1, rfl, hc, by omega, by omega⟩
    simp [dropS, B__law_vat, pow18, h, mul_s s1, mul_t s2, hb, szL]
  · refine ⟨_, ?_, 0, b + 1, rfl, by omega, by omega, by omega⟩
    simp [dropS, B__law_vat, pow18, h, mul_s s1, mul_t s2, hb, szL]
theorem vat_spec {ns : List Int} {k : Nat} (hk : k ≤ 1000) : ∃ μ', F_law_vat [.scr ns, .int k] μ = some (.ok (.obj μ.length), μ') ∧ VatNew μ μ' := by
  have s1 : small64 7919 = true := by decide
  by_cases h : (k : Int) < ns.length
  · obtain ⟨z, _, hz⟩ := atI_of (xs := ns) (show (0 : Int) ≤ k by omega) h
    obtain ⟨μ', e, v⟩ := vat_end (μ := μ) (ns := ns) hk (c := if z < 0 then -z else z) (by split <;> omega)
    refine ⟨μ', ?_, v⟩
    rw [← e]
    simp [F_law_vat, B__law_vat, go, mul_t s1, h, hz]
    simp [dropS]
  · obtain ⟨μ', e, v⟩ := vat_end (μ := μ) (ns := ns) hk (c := 7919 * k + 43) (by omega)
    refine ⟨μ', ?_, v⟩
    rw [← e]
    simp [F_law_vat, B__law_vat, go, mul_t s1, h]
    simp [dropS]
theorem VatNew.vat {μ μ' : List Mo} (h : VatNew μ μ') : Vat μ' μ.length := by
  obtain ⟨a, b, rfl, h1, h2, h3⟩ := h
  exact ⟨a, b, by simp, h1, h2, h3⟩
end
end Dr
set_option Elab.async false
set_option linter.all false
set_option maxRecDepth 100000
set_option maxHeartbeats 4000000
/-! Mch: sheets, summaries, standings as the program returns them; forms of data. -/
namespace Mm
open PySem L2 Mi Pg Ev Dr
end Mm
set_option Elab.async false
set_option linter.all false
set_option maxRecDepth 100000
set_option maxHeartbeats 4000000
/-! Dkc: near boards; the first line that is unlike. -/
namespace Mm
open PySem L2 Mi Pg Ev Dr
end Mm
set_option Elab.async false
set_option linter.all false
set_option maxRecDepth 100000
set_option maxHeartbeats 4000000
/-! Kva: any values: what the program's checks say of them. -/
namespace Kv
open PySem L2 Mi Pg Ev Dr Mm
section
variable {μ : List Mo} {i : Int} {b : Bool} {z : Str} {xs : List D}
@[simp] theorem is_n_tuple : Bi.do .isi μ [.non, .ty "tuple"] = some (.bl false) := nr rfl
@[simp] theorem is_n_int : Bi.do .isi μ [.non, .ty "int"] = some (.bl false) := nr rfl
@[simp] theorem is_n_bool : Bi.do .isi μ [.non, .ty "bool"] = some (.bl false) := nr rfl
@[simp] theorem is_n_str : Bi.do .isi μ [.non, .ty "str"] = some (.bl false) := nr rfl
@[simp] theorem is_n_list : Bi.do .isi μ [.non, .ty "list"] = some (.bl false) := nr rfl
@[simp] theorem is_b_tuple : Bi.do .isi μ [(.bl b), .ty "tuple"] = some (.bl false) := nr rfl
@[simp] theorem is_b_int : Bi.do .isi μ [(.bl b), .ty "int"] = some (.bl true) := nr rfl
@[simp] theorem is_b_bool : Bi.do .isi μ [(.bl b), .ty "bool"] = some (.bl true) := nr rfl
@[simp] theorem is_b_str : Bi.do .isi μ [(.bl b), .ty "str"] = some (.bl false) := nr rfl
@[simp] theorem is_b_list : Bi.do .isi μ [(.bl b), .ty "list"] = some (.bl false) := nr rfl
@[simp] theorem is_i_tuple : Bi.do .isi μ [(.int i), .ty "tuple"] = some (.bl false) := nr rfl
@[simp] theorem is_i_int : Bi.do .isi μ [(.int i), .ty "int"] = some (.bl true) := nr rfl
@[simp] theorem is_i_bool : Bi.do .isi μ [(.int i), .ty "bool"] = some (.bl false) := nr rfl
@[simp] theorem is_i_str : Bi.do .isi μ [(.int i), .ty "str"] = some (.bl false) := nr rfl
@[simp] theorem is_i_list : Bi.do .isi μ [(.int i), .ty "list"] = some (.bl false) := nr rfl
@[simp] theorem is_s_tuple : Bi.do .isi μ [(.str z), .ty "tuple"] = some (.bl false) := nr rfl
@[simp] theorem is_s_int : Bi.do .isi μ [(.str z), .ty "int"] = some (.bl false) := nr rfl
@[simp] theorem is_s_bool : Bi.do .isi μ [(.str z), .ty "bool"] = some (.bl false) := nr rfl
@[simp] theorem is_s_str : Bi.do .isi μ [(.str z), .ty "str"] = some (.bl true) := nr rfl
@[simp] theorem is_s_list : Bi.do .isi μ [(.str z), .ty "list"] = some (.bl false) := nr rfl
@[simp] theorem is_t_tuple : Bi.do .isi μ [(.tup xs), .ty "tuple"] = some (.bl true) := nr rfl
@[simp] theorem is_t_int : Bi.do .isi μ [(.tup xs), .ty "int"] = some (.bl false) := nr rfl
@[simp] theorem is_t_bool : Bi.do .isi μ [(.tup xs), .ty "bool"] = some (.bl false) := nr rfl
@[simp] theorem is_t_str : Bi.do .isi μ [(.tup xs), .ty "str"] = some (.bl false) := nr rfl
@[simp] theorem is_t_list : Bi.do .isi μ [(.tup xs), .ty "list"] = some (.bl false) := nr rfl
@[simp] theorem is_l_tuple : Bi.do .isi μ [(.lst xs), .ty "tuple"] = some (.bl false) := nr rfl
@[simp] theorem is_l_int : Bi.do .isi μ [(.lst xs), .ty "int"] = some (.bl false) := nr rfl
@[simp] theorem is_l_bool : Bi.do .isi μ [(.lst xs), .ty "bool"] = some (.bl false) := nr rfl
@[simp] theorem is_l_str : Bi.do .isi μ [(.lst xs), .ty "str"] = some (.bl false) := nr rfl
@[simp] theorem is_l_list : Bi.do .isi μ [(.lst xs), .ty "list"] = some (.bl true) := nr rfl
@[simp] theorem isn_n : isD .non .non = some true := nr rfl
@[simp] theorem isn_b : isD (.bl b) .non = some false := nr rfl
@[simp] theorem isn_i : isD (.int i) .non = some false := nr rfl
@[simp] theorem isn_s : isD (.str z) .non = some false := nr rfl
@[simp] theorem isn_l : isD (.lst xs) .non = some false := nr rfl
end
/-! ### what is what -/
def wholeB (lo hi : Int) : D → Bool
  | .int i => decide (lo ≤ i) && decide (i ≤ hi)
  | _ => false
def isBl : D → Bool
  | .bl _ => true
  | _ => false
def cardyB (w : Str) : Bool := w == "card" || w == "hole" || w == "plain"
def srcB (nc : Int) (w : Str) : D → Bool
  | .str z => (z == "x" || z == "y") && cardyB w
  | d => wholeB 0 (nc - 1) d
def printB (nc : Int) (w : Str) : D → Bool
  | .tup its => decide (1 ≤ its.length) && decide (its.length ≤ 3) && its.all (srcB nc w)
  | _ => false
def actB (nc ns : Int) (w : Str) : D → Bool
  | .tup [.str z, a] => if z == "clear" then wholeB 0 (nc - 1) a else if z == "print" then printB nc w a else false
  | .tup [.str z, a, b] => if z == "add" || z == "less" then srcB nc w a && wholeB 0 (nc - 1) b else if z == "set" then wholeB 0 (ns - 1) a && isBl b else false
  | _ => false
def timeB (w : Str) : Bool := w == "card" || w == "hole" || w == "plain" || w == "minor" || w == "major"
def swB (ns : Int) : D → Bool
  | .non => true
  | .tup [a, .bl _] => wholeB 0 (ns - 1) a
  | _ => false
def wireB (nc ns : Int) : D → Bool
  | .tup [.str w, s, a] => timeB w && (swB ns s && actB nc ns w a)
  | _ => false
def boardB : D → Bool
  | .tup [.int nc, .int ns, .tup ws] => wholeB 0 3 (.int nc) && wholeB 0 2 (.int ns) && decide (ws.length ≤ 8) && ws.all (wireB nc ns)
  | _ => false
def wsL : D → Nat
  | .tup [_, _, .tup ws] => ws.length
  | _ => 0
def rowB : D → Bool
  | .tup [a] => boardB a
  | .tup [a, b] => boardB a && boardB b && decide (wsL a + wsL b ≤ 8)
  | _ => false
def cardB : D → Bool
  | .tup [a, b, .bl _, x, y] => wholeB 0 1000000000 a && wholeB 0 1000000000 b && wholeB (-1000000000000000000000000000000) 1000000000000000000000000000000 x && wholeB (-1000000000000000000000000000000) 1000000000000000000000000000000 y
  | _ => false
def keyOf : D → Mm.Key
  | .tup (.int a :: .int b :: _) => (a, b)
  | _ => (0, 0)
def kleB (a b : Mm.Key) : Bool := decide (a.1 < b.1) || (decide (a.1 = b.1) && decide (a.2 ≤ b.2))
def ascB : List Mm.Key → Bool
  | [] => true
  | [_] => true
  | a :: b :: r => kleB a b && ascB (b :: r)
def deckB : D → Bool
  | .tup cs => decide (cs.length ≤ 40) && cs.all cardB && ascB (cs.map keyOf)
  | _ => false
def momB : D → Bool
  | .tup [.str w, .bl _] => w == "none" || w == "minor" || w == "major"
  | _ => false
def majB : D → Bool
  | .tup (.str w :: _) => w == "major"
  | _ => false
def patB : D → Bool
  | .tup ms => decide (1 ≤ ms.length) && decide (ms.length ≤ 12) && ms.all momB && (match ms with
    | m :: _ => majB m
    | [] => false)
  | _ => false
/-! ### the program -/
section
variable {μ : List Mo} {n : Nat}
theorem whole_B {d : D} (h : okN n d = true) {lo hi : Int} : Fis_whole [d, .int lo, .int hi] μ = some (.ok (.bl (wholeB lo hi d)), μ) := by
  cases d with
  | int i =>
    by_cases h1 : lo ≤ i
    · simp [Fis_whole, B_is_whole, go, wholeB, h1]
    · simp [Fis_whole, B_is_whole, go, wholeB, h1]
  | ty _ => cases n <;> simp [okN] at h
  | glo _ => cases n <;> simp [okN] at h
  | obj _ => cases n <;> simp [okN] at h
  | scr _ => cases n <;> simp [okN] at h
  | _ => simp [Fis_whole, B_is_whole, go, wholeB]
theorem okS {z : Str} (h : okN n (.str z) = true) : PyData.strOk z = true := by cases n <;> simpa [okN] using h
theorem in_str {z : Str} (hz : PyData.strOk z = true) {ws : List Str} (hw : ∀ w ∈ ws, PyData.strOk w = true) : inD μ (.str z) (.tup (ws.map .str)) = some (ws.any fun w => z == w) := by
  rw [inD_t (ok_str z 64 hz) (okNs_all fun x hx => by
    obtain ⟨w, hw', rfl⟩ := List.mem_map.mp hx
    exact ok_str w 63 (hw w hw'))]
  congr 1
  rw [List.any_map]
  congr 1
  funext w
  show (w == z) = (z == w)
  exact BEq.comm
theorem in_strl {z : Str} (hz : PyData.strOk z = true) {ws : List Str} (hw : ∀ w ∈ ws, PyData.strOk w = true) : inD μ (.str z) (.lst (ws.map .str)) = some (ws.any fun w => z == w) := by
  rw [inD_l (ok_str z 64 hz) (okNs_all fun x hx => by
    obtain ⟨w, hw', rfl⟩ := List.mem_map.mp hx
    exact ok_str w 63 (hw w hw'))]
  congr 1
  rw [List.any_map]
  congr 1
  funext w
  show (w == z) = (z == w)
  exact BEq.comm
@[simp] theorem o_in {a c : D} : Op.do .in_ μ a c = (inD μ a c).map .bl := nr rfl
@[simp] theorem o_nin {a c : D} : Op.do .nin μ a c = (inD μ a c).map fun r => .bl (!r) := nr rfl
theorem src_B {d : D} (h : okN n d = true) {nc ns : Int} {r : D} {w : Str} (hw : timeB w = true) : Fis_source [.tup [.int nc, .int ns, r], .str w, d] μ = some (.ok (.bl (srcB nc w d)), μ) := by
  have hwk : PyData.strOk w = true ∧ inD μ (.str w) (.tup [.str "minor", .str "major"]) = some (!cardyB w) := by
    have hc : w = "card" ∨ w = "hole" ∨ w = "plain" ∨ w = "minor" ∨ w = "major" := by
      simp [timeB] at hw
      rcases hw with (((h | h) | h) | h) | h <;> simp [h]
    rcases hc with rfl | rfl | rfl | rfl | rfl <;> exact ⟨by decide +kernel, by kernel_rfl⟩
  have other : ∀ d : D, okN n d = true → (∀ z, d ≠ .str z) → Bi.do .isi μ [d, .ty "str"] = some (.bl false) → Fis_source [.tup [.int nc, .int ns, r], .str w, d] μ = some (.ok (.bl (wholeB 0 (nc - 1) d)), μ) := by
    intro d hd hn hi
    have := whole_B (μ := μ) hd (lo := 0) (hi := nc - 1)
    simp [Fis_source, B_is_source, go, hi, this]
  cases d with
  | str z =>
    have h1 := in_str (μ := μ) (okS h) (ws := ["x", "y"]) (by decide +kernel)
    simp at h1
    cases hx : (z == ("x" : Str) || z == ("y" : Str)) with
    | true =>
      simp at hx
      have h2 : inD μ (.str z) (.tup [.str "x", .str "y"]) = some true := by rw [h1]; simp [hx]
      simp [Fis_source, B_is_source, go, szL, h2, hwk.2, srcB, hx]
    | false =>
      simp at hx
      have h2 : inD μ (.str z) (.tup [.str "x", .str "y"]) = some false := by rw [h1]; simp [hx]
      simp [Fis_source, B_is_source, go, szL, h2, srcB, hx]
  | ty _ => cases n <;> simp [okN] at h
  | glo _ => cases n <;> simp [okN] at h
  | obj _ => cases n <;> simp [okN] at h
  | scr _ => cases n <;> simp [okN] at h
  | non => exact other _ h (by simp) (by simp)
  | bl _ => exact other _ h (by simp) (by simp)
  | int _ => exact other _ h (by simp) (by simp)
  | tup _ => exact other _ h (by simp) (by simp)
  | lst _ => exact other _ h (by simp) (by simp)
theorem okNs_mem {xs : List D} (h : okNs n xs = true) : ∀ x ∈ xs, okN n x = true := by
  intro x hx
  induction xs with
  | nil => cases hx
  | cons y ys ih =>
    simp only [okNs, Bool.and_eq_true] at h
    rcases List.mem_cons.mp hx with rfl | hx
    · exact h.1
    · exact ih h.2 hx
theorem ok_tup {n : Nat} {xs : List D} (h : okN n (.tup xs) = true) : ∃ m, n = m + 1 ∧ okNs m xs = true := by
  cases n with
  | zero => simp [okN] at h
  | succ m => exact ⟨m, rfl, by simpa [okN] using h⟩
/-- those of which a check says no -/
theorem comp_bad {xs : List D} {p : D → Bool} {i : Nat} {δ : List Sl} {c : E} (hl : xs.length ≤ 1000000) (hi : i < δ.length) (h : ∀ x ∈ xs, ev c (δ.set i (.d x)) μ = some (.ok (.bl (p x)), μ)) : compL (.name i) (ev (.not_ c)) (ev (.var i)) δ xs [] μ = some (.ok (.lst (xs.filter fun x => !p x)), μ) := by
  have := comp_keep (μ := μ) (p := fun x => !p x) (f := fun x : D => x) (g := fun x => x) (tg := .name i) (keep := ev (.not_ c)) (elt := ev (.var i)) (δ := δ) xs [] (by rw [szL]; simp; omega) (fun x hx => ⟨_, rfl, by simp [h x hx], fun _ => by
    have : (δ.set i (.d x))[i]? = some (.d x) := by rw [List.getElem?_set_self hi]
    simp [this]⟩)
  simpa using this
theorem filter_all {α : Type} {p : α → Bool} : ∀ xs : List α, (xs.filter fun x => !p x).isEmpty = xs.all p
  | [] => rfl
  | x :: xs => by
    cases h : p x with
    | true => simp [h, filter_all xs]
    | false => simp [h]
theorem okNs_filter {xs : List D} (h : okNs n xs = true) (p : D → Bool) : okNs n (xs.filter p) = true := okNs_all fun x hx => okNs_mem h x ((List.mem_filter.mp hx).1)
theorem eq_bad {xs : List D} {p : D → Bool} (hn : n ≤ 63) (h : okNs n xs = true) : eqD μ (.lst (xs.filter fun x => !p x)) (.lst []) = some (xs.all p) := by
  rw [eq_lnil (okNs_mono n 63 _ hn (okNs_filter h _)), filter_all]
theorem printing_B {d : D} (h : okN n d = true) (hn : n ≤ 63) {nc ns : Int} {r : D} {w : Str} (hw : timeB w = true) : Fis_printing [.tup [.int nc, .int ns, r], .str w, d] μ = some (.ok (.bl (printB nc w d)), μ) := by
  cases d with
  | ty _ => cases n <;> simp [okN] at h
  | glo _ => cases n <;> simp [okN] at h
  | obj _ => cases n <;> simp [okN] at h
  | scr _ => cases n <;> simp [okN] at h
  | tup its =>
    obtain ⟨m, rfl, ho⟩ := ok_tup h
    by_cases h1 : 1 ≤ its.length
    · by_cases h3 : its.length ≤ 3
      · have k1 : (1 : Int) ≤ its.length := by omega
        have k3 : (its.length : Int) ≤ 3 := by omega
        have e := comp_bad (μ := μ) (xs := its) (p := srcB nc w) (i := 3) (δ := [.d (.tup [.int nc, .int ns, r]), .d (.str w), .d (.tup its), .un]) (c := .call Fis_source (.cons (.var 0) (.cons (.var 1) (.cons (.var 3) .nil)))) (by omega) (by simp) (fun x hx => by
          simp [src_B (μ := μ) (okNs_mem ho x hx) hw])
        have e2 := eq_bad (μ := μ) (p := srcB nc w) (show m ≤ 63 by omega) ho
        simp [Fis_printing, B_is_printing, go, printB, k1, k3, h1, h3, kcomp, wipeS, e, szL, e2]
      · have k1 : (1 : Int) ≤ its.length := by omega
        have k3 : ¬ (its.length : Int) ≤ 3 := by omega
        simp [Fis_printing, B_is_printing, go, printB, k1, k3, h3]
    · have k1 : ¬ (1 : Int) ≤ its.length := by omega
      simp [Fis_printing, B_is_printing, go, printB, k1, h1]
  | _ => simp [Fis_printing, B_is_printing, go, printB]
end
end Kv
set_option Elab.async false
set_option linter.all false
set_option maxRecDepth 100000
set_option maxHeartbeats 4000000
/-! Kvb: any values: actions, wires, boards, rows by the program. -/
namespace Kv
open PySem L2 Mi Pg Ev Dr Mm
section
variable {μ : List Mo} {n : Nat}
theorem in_addless {z : Str} (hz : PyData.strOk z = true) : inD μ (.str z) (.tup [.str "add", .str "less"]) = some (z == ("add" : Str) || z == ("less" : Str)) := by
  have := in_str (μ := μ) hz (ws := ["add", "less"]) (by decide +kernel)
  simpa using this
theorem tup_ne {x : D} {xs : List D} {m : Nat} (hm : m ≤ 63) (h : okNs m (x :: xs) = true) : eqD μ (.tup (x :: xs)) (.tup []) = some false := by
  rw [eq_tnil (okNs_mono m 63 _ hm h)]; rfl
theorem isbl {d : D} (h : okN n d = true) : Bi.do .isi μ [d, .ty "bool"] = some (.bl (isBl d)) := by
  cases d <;> first | (simp [isBl]; done) | (cases n <;> simp [okN] at h)
theorem action_B {d : D} (h : okN n d = true) (hn : n ≤ 63) {nc ns : Int} {r : D} {w : Str} (hw : timeB w = true) : Fis_action [.tup [.int nc, .int ns, r], .str w, d] μ = some (.ok (.bl (actB nc ns w d)), μ) := by
  cases d with
  | ty _ => cases n <;> simp [okN] at h
  | glo _ => cases n <;> simp [okN] at h
  | obj _ => cases n <;> simp [okN] at h
  | scr _ => cases n <;> simp [okN] at h
  | tup ds =>
    obtain ⟨m, rfl, ho⟩ := ok_tup h
    match ds, ho with
    | [], _ => simp [Fis_action, B_is_action, go, actB, szL, eq_tnil (μ := μ) (xs := []) rfl]
    | x :: ds, ho =>
      have hne := tup_ne (μ := μ) (show m ≤ 63 by omega) ho
      have hox := okNs_mem ho x List.mem_cons_self
      have hs : ∀ z, x = .str z → Fis_action [.tup [.int nc, .int ns, r], .str w, .tup (x :: ds)] μ = some (.ok (.bl (actB nc ns w (.tup (x :: ds)))), μ) := by
        rintro z rfl
        have hz := okS hox
        have e1 := in_addless (μ := μ) hz
        have e2 := eq_str (μ := μ) hz (w := "clear") (by decide +kernel)
        have e3 := eq_str (μ := μ) hz (w := "set") (by decide +kernel)
        have e4 := eq_str (μ := μ) hz (w := "print") (by decide +kernel)
        cases c1 : (z == ("add" : Str) || z == ("less" : Str)) with
        | true =>
          rw [c1] at e1
          match ds, ho with
          | [a, b], ho =>
            have ha := src_B (μ := μ) (okNs_mem ho a (by simp)) (nc := nc) (ns := ns) (r := r) hw
            have hb := whole_B (μ := μ) (okNs_mem ho b (by simp)) (lo := 0) (hi := nc - 1)
            cases hq : srcB nc w a with
            | true =>
              rw [hq] at ha
              simp [Fis_action, B_is_action, go, szL, hne, e1, ha, hb, actB, c1, hq]
            | false =>
              rw [hq] at ha
              simp [Fis_action, B_is_action, go, szL, hne, e1, ha, actB, c1, hq]
          | [], ho => simp [Fis_action, B_is_action, go, szL, hne, e1, actB]
          | [a], ho =>
            have hcl : (z == ("clear" : Str)) = false ∧ (z == ("print" : Str)) = false := by
              simp at c1
              rcases c1 with rfl | rfl <;> exact ⟨by decide +kernel, by decide +kernel⟩
            simp [Fis_action, B_is_action, go, szL, hne, e1, actB, hcl.1, hcl.2]
          | a :: b :: c :: l, ho =>
            have : ¬ ((l.length : Int) + 1 + 1 + 1 + 1 = 3) := by omega
            simp [Fis_action, B_is_action, go, szL, hne, e1, actB, this]
        | false =>
          rw [c1] at e1
          cases c2 : (z == ("clear" : Str)) with
          | true =>
            rw [c2] at e2
            match ds, ho with
            | [a], ho =>
              have hb := whole_B (μ := μ) (okNs_mem ho a (by simp)) (lo := 0) (hi := nc - 1)
              simp [Fis_action, B_is_action, go, szL, hne, e1, e2, hb, actB, c2]
            | [], ho => simp [Fis_action, B_is_action, go, szL, hne, e1, e2, actB]
            | [a, b], ho =>
              have hst : (z == ("set" : Str)) = false := by
                simp at c2
                subst c2
                decide +kernel
              simp [Fis_action, B_is_action, go, szL, hne, e1, e2, actB, c1, hst]
            | a :: b :: c :: l, ho =>
              have : ¬ ((l.length : Int) + 1 + 1 + 1 + 1 = 2) := by omega
              simp [Fis_action, B_is_action, go, szL, hne, e1, e2, actB, this]
          | false =>
            rw [c2] at e2
            cases c3 : (z == ("set" : Str)) with
            | true =>
              rw [c3] at e3
              have hpr : (z == ("print" : Str)) = false := by
                simp at c3
                subst c3
                decide +kernel
              match ds, ho with
              | [a, b], ho =>
                have ha := whole_B (μ := μ) (okNs_mem ho a (by simp)) (lo := 0) (hi := ns - 1)
                have hbb := isbl (μ := μ) (okNs_mem ho b (by simp))
                cases hq : wholeB 0 (ns - 1) a with
                | true =>
                  rw [hq] at ha
                  simp [Fis_action, B_is_action, go, szL, hne, e1, e2, e3, ha, hbb, actB, c1, c3, hq]
                | false =>
                  rw [hq] at ha
                  simp [Fis_action, B_is_action, go, szL, hne, e1, e2, e3, ha, actB, c1, c3, hq]
              | [], ho => simp [Fis_action, B_is_action, go, szL, hne, e1, e2, e3, actB]
              | [a], ho => simp [Fis_action, B_is_action, go, szL, hne, e1, e2, e3, actB, c2, hpr]
              | a :: b :: c :: l, ho =>
                have : ¬ ((l.length : Int) + 1 + 1 + 1 + 1 = 3) := by omega
                simp [Fis_action, B_is_action, go, szL, hne, e1, e2, e3, actB, this]
            | false =>
              rw [c3] at e3
              cases c4 : (z == ("print" : Str)) with
              | true =>
                rw [c4] at e4
                match ds, ho with
                | [a], ho =>
                  have hp := printing_B (μ := μ) (okNs_mem ho a (by simp)) (by omega) (nc := nc) (ns := ns) (r := r) hw
                  simp [Fis_action, B_is_action, go, szL, hne, e1, e2, e3, e4, hp, actB, c2, c4]
                | [], ho => simp [Fis_action, B_is_action, go, szL, hne, e1, e2, e3, e4, actB]
                | [a, b], ho => simp [Fis_action, B_is_action, go, szL, hne, e1, e2, e3, e4, actB, c1, c3]
                | a :: b :: c :: l, ho =>
                  have : ¬ ((l.length : Int) + 1 + 1 + 1 + 1 = 2) := by omega
                  simp [Fis_action, B_is_action, go, szL, hne, e1, e2, e3, e4, actB, this]
              | false =>
                rw [c4] at e4
                match ds, ho with
                | [a], ho => simp [Fis_action, B_is_action, go, szL, hne, e1, e2, e3, e4, actB, c2, c4]
                | [], ho => simp [Fis_action, B_is_action, go, szL, hne, e1, e2, e3, e4, actB]
                | [a, b], ho => simp [Fis_action, B_is_action, go, szL, hne, e1, e2, e3, e4, actB, c1, c3]
                | a :: b :: c :: l, ho => simp [Fis_action, B_is_action, go, szL, hne, e1, e2, e3, e4, actB]
      cases x with
      | str z => exact hs z rfl
      | ty _ => cases m <;> simp [okN] at hox
      | glo _ => cases m <;> simp [okN] at hox
      | obj _ => cases m <;> simp [okN] at hox
      | scr _ => cases m <;> simp [okN] at hox
      | _ =>
        clear hs
        rcases ds with _ | ⟨a, _ | ⟨b, _ | ⟨c, l⟩⟩⟩ <;> simp [Fis_action, B_is_action, go, szL, hne, actB]
  | _ => simp [Fis_action, B_is_action, go, actB]
theorem word_B {d : D} (h : okN n d = true) : Fis_word [d, .tup [.str "card", .str "hole", .str "plain", .str "minor", .str "major"]] μ = some (.ok (.bl (match d with
    | .str w => timeB w
    | _ => false)), μ) := by
  cases d with
  | ty _ => cases n <;> simp [okN] at h
  | glo _ => cases n <;> simp [okN] at h
  | obj _ => cases n <;> simp [okN] at h
  | scr _ => cases n <;> simp [okN] at h
  | str z =>
    have := in_str (μ := μ) (okS h) (ws := ["card", "hole", "plain", "minor", "major"]) (by decide +kernel)
    simp at this
    simp [Fis_word, B_is_word, go, this, timeB, Bool.or_assoc]
  | _ => simp [Fis_word, B_is_word, go]
theorem wire_B {d : D} (h : okN n d = true) (hn : n ≤ 63) {nc ns : Int} {r : D} : Fis_wire [.tup [.int nc, .int ns, r], d] μ = some (.ok (.bl (wireB nc ns d)), μ) := by
  cases d with
  | ty _ => cases n <;> simp [okN] at h
  | glo _ => cases n <;> simp [okN] at h
  | obj _ => cases n <;> simp [okN] at h
  | scr _ => cases n <;> simp [okN] at h
  | tup ds =>
    obtain ⟨m, rfl, ho⟩ := ok_tup h
    match ds, ho with
    | [], _ => simp [Fis_wire, B_is_wire, go, wireB]
    | [x], _ => simp [Fis_wire, B_is_wire, go, wireB]
    | [x, y], _ => simp [Fis_wire, B_is_wire, go, wireB]
    | x :: y :: z :: u :: l, _ =>
      have : ¬ ((l.length : Int) + 1 + 1 + 1 + 1 = 3) := by omega
      simp [Fis_wire, B_is_wire, go, wireB, this]
    | [x, s, a], ho =>
      have hx := okNs_mem ho x (by simp)
      have hs := okNs_mem ho s (by simp)
      have ha := okNs_mem ho a (by simp)
      have hwd := word_B (μ := μ) hx
      cases x with
      | str w =>
        cases hw : timeB w with
        | false =>
          simp [hw] at hwd
          simp [Fis_wire, B_is_wire, go, wireB, hwd, hw]
        | true =>
          simp [hw] at hwd
          have hact := action_B (μ := μ) ha (by omega) (nc := nc) (ns := ns) (r := r) hw
          cases s with
          | ty _ => cases m <;> simp [okN] at hs
          | glo _ => cases m <;> simp [okN] at hs
          | obj _ => cases m <;> simp [okN] at hs
          | scr _ => cases m <;> simp [okN] at hs
          | non => simp [Fis_wire, B_is_wire, go, wireB, hwd, hw, swB, hact]
          | tup ss =>
            obtain ⟨m2, rfl, ho2⟩ := ok_tup hs
            match ss, ho2 with
            | [], _ => simp [Fis_wire, B_is_wire, go, wireB, hwd, swB]
            | [p], _ => simp [Fis_wire, B_is_wire, go, wireB, hwd, swB]
            | p :: q :: u :: l, _ =>
              have : ¬ ((l.length : Int) + 1 + 1 + 1 = 2) := by omega
              simp [Fis_wire, B_is_wire, go, wireB, hwd, swB, this]
            | [p, q], ho2 =>
              have hp := whole_B (μ := μ) (okNs_mem ho2 p (by simp)) (lo := 0) (hi := ns - 1)
              have hq := okNs_mem ho2 q (by simp)
              cases q with
              | bl b =>
                cases hpw : wholeB 0 (ns - 1) p with
                | true =>
                  rw [hpw] at hp
                  simp [Fis_wire, B_is_wire, go, wireB, hwd, swB, hp, hpw, hact, hw]
                | false =>
                  rw [hpw] at hp
                  simp [Fis_wire, B_is_wire, go, wireB, hwd, swB, hp, hpw]
              | ty _ => cases m2 <;> simp [okN] at hq
              | glo _ => cases m2 <;> simp [okN] at hq
              | obj _ => cases m2 <;> simp [okN] at hq
              | scr _ => cases m2 <;> simp [okN] at hq
              | _ => simp [Fis_wire, B_is_wire, go, wireB, hwd, swB]
          | _ => simp [Fis_wire, B_is_wire, go, wireB, hwd, swB]
      | ty _ => cases m <;> simp [okN] at hx
      | glo _ => cases m <;> simp [okN] at hx
      | obj _ => cases m <;> simp [okN] at hx
      | scr _ => cases m <;> simp [okN] at hx
      | _ => simp at hwd; simp [Fis_wire, B_is_wire, go, wireB, hwd]
  | _ => simp [Fis_wire, B_is_wire, go, wireB]
end
end Kv
set_option Elab.async false
set_option linter.all false
set_option maxRecDepth 100000
set_option maxHeartbeats 4000000
/-! Kvc: any values: boards, rows, cards, decks, patterns by the program. -/
namespace Kv
open PySem L2 Mi Pg Ev Dr Mm
section
variable {μ : List Mo} {n : Nat}
theorem whole_int {d : D} {lo hi : Int} (h : wholeB lo hi d = true) : ∃ i, d = .int i ∧ lo ≤ i ∧ i ≤ hi := by
  cases d with
  | int i => simp [wholeB] at h; exact ⟨i, rfl, h.1, h.2⟩
  | _ => simp [wholeB] at h
theorem board_B {d : D} (h : okN n d = true) (hn : n ≤ 63) (hl : ∀ a b ws, d = .tup [a, b, .tup ws] → ws.length ≤ 1000000) : Fis_board [d] μ = some (.ok (.bl (boardB d)), μ) := by
  cases d with
  | ty _ => cases n <;> simp [okN] at h
  | glo _ => cases n <;> simp [okN] at h
  | obj _ => cases n <;> simp [okN] at h
  | scr _ => cases n <;> simp [okN] at h
  | tup ds =>
    obtain ⟨m, rfl, ho⟩ := ok_tup h
    match ds, ho with
    | [], _ => simp [Fis_board, B_is_board, go, boardB]
    | [x], _ => simp [Fis_board, B_is_board, go, boardB]
    | [x, y], _ => simp [Fis_board, B_is_board, go, boardB]
    | x :: y :: z :: u :: l, _ =>
      have : ¬ ((l.length : Int) + 1 + 1 + 1 + 1 = 3) := by omega
      simp [Fis_board, B_is_board, go, boardB, this]
    | [x, y, z], ho =>
      have hx := okNs_mem ho x (by simp)
      have hy := okNs_mem ho y (by simp)
      have hz := okNs_mem ho z (by simp)
      have ex := whole_B (μ := μ) hx (lo := 0) (hi := 3)
      have ey := whole_B (μ := μ) hy (lo := 0) (hi := 2)
      cases bx : wholeB 0 3 x with
      | false =>
        rw [bx] at ex
        have hb : boardB (.tup [x, y, z]) = false := by
          unfold boardB
          split
          · rename_i a b c e
            simp at e
            obtain ⟨rfl, _⟩ := e
            simp [bx]
          · rfl
        simp [Fis_board, B_is_board, go, ex, hb]
      | true =>
        rw [bx] at ex
        obtain ⟨nc, rfl, _⟩ := whole_int bx
        cases bY : wholeB 0 2 y with
        | false =>
          rw [bY] at ey
          have hb : boardB (.tup [.int nc, y, z]) = false := by
            unfold boardB
            split
            · rename_i a b c e
              simp at e
              obtain ⟨rfl, rfl, _⟩ := e
              simp [bY]
            · rfl
          simp [Fis_board, B_is_board, go, ex, ey, hb]
        | true =>
          rw [bY] at ey
          obtain ⟨ns, rfl, _⟩ := whole_int bY
          cases z with
          | ty _ => cases m <;> simp [okN] at hz
          | glo _ => cases m <;> simp [okN] at hz
          | obj _ => cases m <;> simp [okN] at hz
          | scr _ => cases m <;> simp [okN] at hz
          | tup ws =>
            obtain ⟨m2, rfl, ho2⟩ := ok_tup hz
            by_cases h8 : ws.length ≤ 8
            · have k8 : ¬ (8 : Int) < ws.length := by omega
              have e := comp_bad (μ := μ) (xs := ws) (p := wireB nc ns) (i := 1) (δ := [.d (.tup [.int nc, .int ns, .tup ws]), .un]) (c := .call Fis_wire (.cons (.var 0) (.cons (.var 1) .nil))) (by omega) (by simp) (fun x hx => by
                simp [wire_B (μ := μ) (okNs_mem ho2 x hx) (by omega)])
              have e2 := eq_bad (μ := μ) (p := wireB nc ns) (show m2 ≤ 63 by omega) ho2
              simp [Fis_board, B_is_board, go, ex, ey, k8, kcomp, wipeS, e, szL, e2, boardB, bx, bY, h8]
            · have k8 : (8 : Int) < ws.length := by omega
              simp [Fis_board, B_is_board, go, ex, ey, k8, boardB, h8]
          | _ => simp [Fis_board, B_is_board, go, ex, ey, boardB]
  | _ => simp [Fis_board, B_is_board, go, boardB]
theorem wsL_le {d : D} (h : boardB d = true) : ∃ a b ws, d = .tup [a, b, .tup ws] ∧ ws.length ≤ 8 ∧ wsL d = ws.length := by
  unfold boardB at h
  split at h
  · rename_i nc ns ws
    simp only [Bool.and_eq_true, decide_eq_true_eq] at h
    exact ⟨_, _, ws, rfl, h.1.2, rfl⟩
  · cases h
/-- no list or tuple in a value is long -/
def szN : Nat → D → Bool
  | n + 1, .tup xs => decide (xs.length ≤ 100000) && xs.all (szN n)
  | n + 1, .lst xs => decide (xs.length ≤ 100000) && xs.all (szN n)
  | 0, .tup _ => false
  | 0, .lst _ => false
  | _, _ => true
theorem sz_board {d : D} {k : Nat} (h : szN k d = true) : ∀ a b ws, d = .tup [a, b, .tup ws] → ws.length ≤ 1000000 := by
  rintro a b ws rfl
  cases k with
  | zero => simp [szN] at h
  | succ k =>
    cases k with
    | zero => simp [szN] at h
    | succ k =>
      simp [szN] at h
      omega
theorem row_B {d : D} (h : okN n d = true) (hn : n ≤ 63) {k : Nat} (hz : szN k d = true) : Fis_row [d] μ = some (.ok (.bl (rowB d)), μ) := by
  cases d with
  | ty _ => cases n <;> simp [okN] at h
  | glo _ => cases n <;> simp [okN] at h
  | obj _ => cases n <;> simp [okN] at h
  | scr _ => cases n <;> simp [okN] at h
  | tup ds =>
    obtain ⟨m, rfl, ho⟩ := ok_tup h
    obtain ⟨k, rfl⟩ : ∃ j, k = j + 1 := by cases k with
      | zero => simp [szN] at hz
      | succ k => exact ⟨k, rfl⟩
    have hin : ∀ i : Int, inD μ (.int i) (.tup [.int 1, .int 2]) = some (decide (i = 1) || decide (i = 2)) := by
      intro i
      rw [inD_t (ok_int 64 i) rfl]
      simp only [List.any_cons, List.any_nil, Bool.or_false, eqb]
      congr 1
      by_cases a : i = 1
      · subst a; rfl
      · by_cases b : i = 2
        · subst b; rfl
        · simp [a, b]; exact ⟨fun e => a e.symm, fun e => b e.symm⟩
    match ds, ho with
    | [], _ => simp [Fis_row, B_is_row, go, rowB, szL, hin]
    | x :: y :: z :: l, _ =>
      have h1 : ¬ ((l.length : Int) + 1 + 1 + 1 = 1) := by omega
      have h2 : ¬ ((l.length : Int) + 1 + 1 + 1 = 2) := by omega
      simp [Fis_row, B_is_row, go, rowB, szL, hin, h1, h2]
    | [a], ho =>
      have ha := okNs_mem ho a (by simp)
      have sa : szN k a = true := by simp [szN] at hz; exact hz
      have ea := board_B (μ := μ) ha (by omega) (sz_board sa)
      have e := comp_bad (μ := μ) (xs := [a]) (p := boardB) (i := 1) (δ := [.d (.tup [a]), .un]) (c := .call Fis_board (.cons (.var 1) .nil)) (by simp) (by simp) (fun x hx => by
        simp at hx; subst hx; simp [ea])
      have e2 := eq_bad (μ := μ) (p := boardB) (show m ≤ 63 by omega) ho
      cases hb : boardB a with
      | false =>
        simp [hb] at e e2
        simp [Fis_row, B_is_row, go, rowB, szL, hin, kcomp, wipeS, e, e2, hb]
      | true =>
        obtain ⟨x, y, ws, rfl, h8, hw⟩ := wsL_le hb
        simp [hb] at e e2
        have ec : compL (.name 1) (ev (.con (.bl true))) (ev (.bi .len (.cons (.idx (.var 1) (.con (.int (2)))) .nil))) [.d (.tup [.tup [x, y, .tup ws]]), .un] [.tup [x, y, .tup ws]] [] μ = some (.ok (.lst [.int ws.length]), μ) := by
          rw [comp_cons (μ1 := μ) (μ2 := μ) (d := .int ws.length) rfl (by simp) (by simp) (by rw [szL]; exact Nat.succ_pos _), comp_nil]
          rfl
        have hs : Bi.do .sum μ [.lst [.int ws.length]] = some (.int ws.length) := by
          show some (D.int (([(ws.length : Int)] : List Int).sum)) = _
          simp
        have h8' : (ws.length : Int) ≤ 8 := by omega
        simp [Fis_row, B_is_row, go, rowB, szL, hin, kcomp, wipeS, e, e2, hb, ec, hs, h8']
    | [a, b], ho =>
      have ha := okNs_mem ho a (by simp)
      have hb := okNs_mem ho b (by simp)
      have sa : szN k a = true ∧ szN k b = true := by simp [szN] at hz; exact hz
      have ea := board_B (μ := μ) ha (by omega) (sz_board sa.1)
      have eb := board_B (μ := μ) hb (by omega) (sz_board sa.2)
      have e := comp_bad (μ := μ) (xs := [a, b]) (p := boardB) (i := 1) (δ := [.d (.tup [a, b]), .un]) (c := .call Fis_board (.cons (.var 1) .nil)) (by simp) (by simp) (fun x hx => by
        simp at hx; rcases hx with rfl | rfl
        · simp [ea]
        · simp [eb])
      have e2 := eq_bad (μ := μ) (p := boardB) (show m ≤ 63 by omega) ho
      cases hba : boardB a with
      | false =>
        simp [hba] at e e2
        simp [Fis_row, B_is_row, go, rowB, szL, hin, kcomp, wipeS, e, e2, hba]
      | true =>
        cases hbb : boardB b with
        | false =>
          simp [hba, hbb] at e e2
          simp [Fis_row, B_is_row, go, rowB, szL, hin, kcomp, wipeS, e, e2, hba, hbb]
        | true =>
          obtain ⟨x, y, ws, rfl, h8, hw⟩ := wsL_le hba
          obtain ⟨x2, y2, ws2, rfl, h82, hw2⟩ := wsL_le hbb
          simp [hba, hbb] at e e2
          have ec : compL (.name 1) (ev (.con (.bl true))) (ev (.bi .len (.cons (.idx (.var 1) (.con (.int (2)))) .nil))) [.d (.tup [.tup [x, y, .tup ws], .tup [x2, y2, .tup ws2]]), .un] [.tup [x, y, .tup ws], .tup [x2, y2, .tup ws2]] [] μ = some (.ok (.lst [.int ws.length, .int ws2.length]), μ) := by
            rw [comp_cons (μ1 := μ) (μ2 := μ) (d := .int ws.length) rfl (by simp) (by simp) (by rw [szL]; exact Nat.succ_pos _), comp_cons (μ1 := μ) (μ2 := μ) (d := .int ws2.length) rfl (by simp) (by simp) (by rw [szL]; show 1 < _; omega), comp_nil]
            rfl
          have hs : Bi.do .sum μ [.lst [.int ws.length, .int ws2.length]] = some (.int (ws.length + ws2.length)) := by
            show some (D.int (([(ws.length : Int), (ws2.length : Int)] : List Int).sum)) = _
            simp
          have hdec : decide ((ws.length : Int) + ws2.length ≤ 8) = decide (ws.length + ws2.length ≤ 8) := by
            apply decide_eq_decide.mpr; omega
          simp [Fis_row, B_is_row, go, rowB, szL, hin, kcomp, wipeS, e, e2, hba, hbb, ec, hs, hw, hw2, hdec]
  | _ => simp [Fis_row, B_is_row, go, rowB]
theorem card_B {d : D} (h : okN n d = true) : Fis_card [d] μ = some (.ok (.bl (cardB d)), μ) := by
  cases d with
  | ty _ => cases n <;> simp [okN] at h
  | glo _ => cases n <;> simp [okN] at h
  | obj _ => cases n <;> simp [okN] at h
  | scr _ => cases n <;> simp [okN] at h
  | tup ds =>
    obtain ⟨m, rfl, ho⟩ := ok_tup h
    match ds, ho with
    | [], _ => simp [Fis_card, B_is_card, go, cardB]
    | [_], _ => simp [Fis_card, B_is_card, go, cardB]
    | [_, _], _ => simp [Fis_card, B_is_card, go, cardB]
    | [_, _, _], _ => simp [Fis_card, B_is_card, go, cardB]
    | [_, _, _, _], _ => simp [Fis_card, B_is_card, go, cardB]
    | _ :: _ :: _ :: _ :: _ :: _ :: l, _ =>
      have : ¬ ((l.length : Int) + 1 + 1 + 1 + 1 + 1 + 1 = 5) := by omega
      simp [Fis_card, B_is_card, go, cardB, this]
    | [a, b, c, x, y], ho =>
      have hc := isbl (μ := μ) (okNs_mem ho c (by simp))
      have ea := whole_B (μ := μ) (okNs_mem ho a (by simp)) (lo := 0) (hi := 1000000000)
      have eb := whole_B (μ := μ) (okNs_mem ho b (by simp)) (lo := 0) (hi := 1000000000)
      have ex := whole_B (μ := μ) (okNs_mem ho x (by simp)) (lo := -1000000000000000000000000000000) (hi := 1000000000000000000000000000000)
      have ey := whole_B (μ := μ) (okNs_mem ho y (by simp)) (lo := -1000000000000000000000000000000) (hi := 1000000000000000000000000000000)
      cases c with
      | bl c =>
        cases qa : wholeB 0 1000000000 a <;> rw [qa] at ea
        · simp [Fis_card, B_is_card, go, cardB, pow9, ea, qa]
        · cases qb : wholeB 0 1000000000 b <;> rw [qb] at eb
          · simp [Fis_card, B_is_card, go, cardB, pow9, ea, qa, eb, qb]
          · cases qx : wholeB (-1000000000000000000000000000000) 1000000000000000000000000000000 x <;> rw [qx] at ex
            · simp [Fis_card, B_is_card, go, cardB, pow9, ea, qa, eb, qb, ex, qx]
            · simp [Fis_card, B_is_card, go, cardB, pow9, ea, qa, eb, qb, ex, qx, ey]
      | _ => simp [isBl] at hc; simp [Fis_card, B_is_card, go, cardB, hc]
  | _ => simp [Fis_card, B_is_card, go, cardB]
theorem card_inv {d : D} (h : cardB d = true) : ∃ j k b x y, d = .tup [.int j, .int k, .bl b, .int x, .int y] ∧ (Card.ok ⟨(j, k), b, x, y⟩) := by
  unfold cardB at h
  split at h
  · rename_i a b c x y
    simp only [Bool.and_eq_true] at h
    obtain ⟨⟨⟨ha, hb⟩, hx⟩, hy⟩ := h
    obtain ⟨j, rfl, j0, j1⟩ := whole_int ha
    obtain ⟨k, rfl, k0, k1⟩ := whole_int hb
    obtain ⟨x, rfl, x0, x1⟩ := whole_int hx
    obtain ⟨y, rfl, y0, y1⟩ := whole_int hy
    exact ⟨j, k, c, x, y, rfl, j0, j1, k0, k1, x0, x1, y0, y1⟩
  · cases h
theorem key_gtB {a b : Mm.Key} : Op.do (.cm .gt) μ (keyD a) (keyD b) = some (.bl (!kleB a b)) := by
  show (cmD .gt (keyD a) (keyD b)).map D.bl = _
  have e : cmD .gt (keyD a) (keyD b) = some (lexC .gt [a.1, a.2] [b.1, b.2]) := rfl
  rw [e]
  simp only [lexC, Cm.int, kleB]
  show some (D.bl _) = some (D.bl _)
  refine congrArg (fun z => some (D.bl z)) ?_
  by_cases h : a.1 = b.1
  · rw [if_pos h]
    by_cases h2 : a.2 = b.2
    · rw [if_pos h2]
      simp [h, h2]
    · rw [if_neg h2]
      rw [Bool.eq_iff_iff]
      simp [h]
      try (constructor <;> intro z <;> omega)
  · rw [if_neg h, Bool.eq_iff_iff]
    simp [h]
    constructor <;> intro z <;> omega
theorem cards_inv {ds : List D} (h : ds.all cardB = true) : ∃ cs : List (Card Int), ds = cs.map Card.d ∧ (∀ c ∈ cs, c.ok) ∧ ds.map keyOf = cs.map Card.k := by
  induction ds with
  | nil => exact ⟨[], rfl, by simp, rfl⟩
  | cons d ds ih =>
    simp only [List.all_cons, Bool.and_eq_true] at h
    obtain ⟨j, k, b, x, y, rfl, ho⟩ := card_inv h.1
    obtain ⟨cs, rfl, hc, hk⟩ := ih h.2
    refine ⟨⟨(j, k), b, x, y⟩ :: cs, rfl, fun c hm => ?_, ?_⟩
    · rcases List.mem_cons.mp hm with rfl | hm
      · exact ho
      · exact hc c hm
    · rw [List.map_cons, List.map_cons, hk]; rfl
theorem ascB_ix : ∀ ks : List Mm.Key, ascB ks = ((List.range (ks.length - 1)).all fun i => kleB (ks.getD i (0, 0)) (ks.getD (i + 1) (0, 0)))
  | [] => rfl
  | [_] => rfl
  | a :: b :: r => by
    have ih := ascB_ix (b :: r)
    rw [ascB, ih]
    simp only [List.length_cons, Nat.add_sub_cancel]
    rw [List.range_succ_eq_map, List.all_cons, List.all_map]
    rfl
theorem deck_B {d : D} (h : okN n d = true) (hn : n ≤ 63) : Fis_deck [d] μ = some (.ok (.bl (deckB d)), μ) := by
  cases d with
  | ty _ => cases n <;> simp [okN] at h
  | glo _ => cases n <;> simp [okN] at h
  | obj _ => cases n <;> simp [okN] at h
  | scr _ => cases n <;> simp [okN] at h
  | tup ds =>
    obtain ⟨m, rfl, ho⟩ := ok_tup h
    by_cases h40 : ds.length ≤ 40
    · have k40 : ¬ (40 : Int) < ds.length := by omega
      have e := comp_bad (μ := μ) (xs := ds) (p := cardB) (i := 2) (δ := [.d (.tup ds), .un, .un]) (c := .call Fis_card (.cons (.var 2) .nil)) (by omega) (by simp) (fun x hx => by
        simp [card_B (μ := μ) (okNs_mem ho x hx)])
      have e2 := eq_bad (μ := μ) (p := cardB) (show m ≤ 63 by omega) ho
      cases ha : ds.all cardB with
      | false =>
        rw [ha] at e2
        simp [Fis_deck, B_is_deck, go, k40, h40, kcomp, wipeS, e, szL, e2, deckB, ha]
      | true =>
        rw [ha] at e2
        obtain ⟨cs, rfl, hc, hk⟩ := cards_inv ha
        have hrg : rgOk 0 ((cs.length : Int) - 1) = true := by unfold rgOk; simp at h40 ⊢; omega
        have hrd : rgD 0 ((cs.length : Int) - 1) = (List.range (cs.length - 1)).map fun (i : Nat) => D.int i := by
          unfold rgD
          rw [show ((cs.length : Int) - 1 - 0).toNat = cs.length - 1 by omega]
          simp
        have e3 := comp_keep (μ := μ) (p := fun i : Nat => !kleB ((cs.map Card.k).getD i (0, 0)) ((cs.map Card.k).getD (i + 1) (0, 0))) (f := fun i : Nat => .int i) (g := fun i : Nat => .int i) (tg := .name 1) (keep := ev (.op (.cm .gt) (.slc (.idx (.var 0) (.var 1)) .no (.yes (.con (.int (2))))) (.slc (.idx (.var 0) (.op .add (.var 1) (.con (.int (1))))) .no (.yes (.con (.int (2))))))) (elt := ev (.var 1)) (δ := [.d (.tup (cs.map Card.d)), .un, .un]) (List.range (cs.length - 1)) [] (by rw [szL]; simp at h40 ⊢; omega) (fun i hi => by
          rw [List.mem_range] at hi
          have hi2 : i + 1 < cs.length := by omega
          refine ⟨_, rfl, ?_, by simp⟩
          have a0 : L2.atI (cs.map Card.d) (i : Int) = some (cs[i].d) := by rw [atI_map Card.d cs[i] (by omega)]; simp [show i < cs.length by omega]
          have a1 : L2.atI (cs.map Card.d) ((i : Int) + 1) = some (cs[i + 1].d) := by
            have := atI_map Card.d cs[i] (xs := cs) (i := i + 1) (by omega)
            rw [show ((i + 1 : Nat) : Int) = (i : Int) + 1 by omega] at this
            rw [this]; simp [hi2]
          have g0 : (cs.map Card.k).getD i (0, 0) = cs[i].k := by simp [show i < cs.length by omega]
          have g1 : (cs.map Card.k).getD (i + 1) (0, 0) = cs[i + 1].k := by simp [hi2]
          rw [g0, g1]
          have := key_gtB (μ := μ) (a := cs[i].k) (b := cs[i + 1].k)
          simp [a0, a1, sl_key5, this])
        rw [← hrd, List.nil_append] at e3
        have okL : okNs 63 (((List.range (cs.length - 1)).filter fun i : Nat => !kleB ((cs.map Card.k).getD i (0, 0)) ((cs.map Card.k).getD (i + 1) (0, 0))).map fun (i : Nat) => D.int i) = true := okNs_all fun x hx => by
          obtain ⟨i, _, rfl⟩ := List.mem_map.mp hx
          exact ok_int 63 i
        have e4 := eq_lnil (μ := μ) okL
        have e5 : ((((List.range (cs.length - 1)).filter fun i : Nat => !kleB ((cs.map Card.k).getD i (0, 0)) ((cs.map Card.k).getD (i + 1) (0, 0))).map fun (i : Nat) => D.int i).isEmpty) = ascB (cs.map Card.k) := by
          rw [List.isEmpty_map, filter_all, ascB_ix]
          simp
        rw [e5] at e4
        have hk2 : List.map (keyOf ∘ Card.d) cs = cs.map Card.k := by rw [← hk, List.map_map]
        have ha2 : cs.all (cardB ∘ Card.d) = true := by rw [← ha, List.all_map]
        simp at h40
        simp only [List.length_map] at k40 e e2
        have hd : deckB (.tup (cs.map Card.d)) = ascB (cs.map Card.k) := by
          show (decide ((cs.map Card.d).length ≤ 40) && (cs.map Card.d).all cardB && ascB ((cs.map Card.d).map keyOf)) = _
          rw [ha, hk]
          simp [h40]
        rw [hd]
        obtain ⟨L, hL⟩ : ∃ L, (((List.range (cs.length - 1)).filter fun i : Nat => !kleB ((cs.map Card.k).getD i (0, 0)) ((cs.map Card.k).getD (i + 1) (0, 0))).map fun (i : Nat) => D.int i) = L := ⟨_, rfl⟩
        rw [hL] at e3 e4
        simp [Fis_deck, B_is_deck, go, k40, kcomp, wipeS, e, szL, e2, hrg, e3, e4]
    · have k40 : (40 : Int) < ds.length := by omega
      simp [Fis_deck, B_is_deck, go, k40, h40, deckB]
  | _ => simp [Fis_deck, B_is_deck, go, deckB]
theorem wordL_B {d : D} (h : okN n d = true) : Fis_word [d, .tup [.str "none", .str "minor", .str "major"]] μ = some (.ok (.bl (match d with
    | .str w => w == "none" || w == "minor" || w == "major"
    | _ => false)), μ) := by
  cases d with
  | ty _ => cases n <;> simp [okN] at h
  | glo _ => cases n <;> simp [okN] at h
  | obj _ => cases n <;> simp [okN] at h
  | scr _ => cases n <;> simp [okN] at h
  | str z =>
    have := in_str (μ := μ) (okS h) (ws := ["none", "minor", "major"]) (by decide +kernel)
    simp at this
    simp [Fis_word, B_is_word, go, this, Bool.or_assoc]
  | _ => simp [Fis_word, B_is_word, go]
theorem moment_B {d : D} (h : okN n d = true) : Fis_moment [d] μ = some (.ok (.bl (momB d)), μ) := by
  cases d with
  | ty _ => cases n <;> simp [okN] at h
  | glo _ => cases n <;> simp [okN] at h
  | obj _ => cases n <;> simp [okN] at h
  | scr _ => cases n <;> simp [okN] at h
  | tup ds =>
    obtain ⟨m, rfl, ho⟩ := ok_tup h
    match ds, ho with
    | [], _ => simp [Fis_moment, B_is_moment, go, momB]
    | [_], _ => simp [Fis_moment, B_is_moment, go, momB]
    | _ :: _ :: _ :: l, _ =>
      have : ¬ ((l.length : Int) + 1 + 1 + 1 = 2) := by omega
      simp [Fis_moment, B_is_moment, go, momB, this]
    | [a, b], ho =>
      have ha := wordL_B (μ := μ) (okNs_mem ho a (by simp))
      have hb := isbl (μ := μ) (okNs_mem ho b (by simp))
      have hoa := okNs_mem ho a (by simp)
      cases a with
      | str w =>
        simp only at ha
        cases hw : (w == ("none" : Str) || w == ("minor" : Str) || w == ("major" : Str)) with
        | true =>
          rw [hw] at ha
          cases b with
          | bl b => simp [Fis_moment, B_is_moment, go, momB, szL, ha]; simpa using hw
          | _ => simp [Fis_moment, B_is_moment, go, momB, szL, ha, hb, isBl]
        | false =>
          rw [hw] at ha
          cases b with
          | bl b => simp [Fis_moment, B_is_moment, go, momB, szL, ha]; simpa using hw
          | _ => simp [Fis_moment, B_is_moment, go, momB, szL, ha]
      | ty _ => cases m <;> simp [okN] at hoa
      | glo _ => cases m <;> simp [okN] at hoa
      | obj _ => cases m <;> simp [okN] at hoa
      | scr _ => cases m <;> simp [okN] at hoa
      | _ => simp at ha; simp [Fis_moment, B_is_moment, go, momB, szL, ha]
  | _ => simp [Fis_moment, B_is_moment, go, momB]
theorem pattern_B {d : D} (h : okN n d = true) (hn : n ≤ 63) : Fis_pattern [d] μ = some (.ok (.bl (patB d)), μ) := by
  cases d with
  | ty _ => cases n <;> simp [okN] at h
  | glo _ => cases n <;> simp [okN] at h
  | obj _ => cases n <;> simp [okN] at h
  | scr _ => cases n <;> simp [okN] at h
  | tup ds =>
    obtain ⟨m, rfl, ho⟩ := ok_tup h
    match ds, ho with
    | [], _ => simp [Fis_pattern, B_is_pattern, go, patB]
    | x :: l, ho =>
      by_cases h12 : (x :: l).length ≤ 12
      · have k1 : (1 : Int) ≤ ((x :: l).length : Int) := by simp; omega
        have k12 : ((x :: l).length : Int) ≤ 12 := by omega
        have e := comp_bad (μ := μ) (xs := x :: l) (p := momB) (i := 1) (δ := [.d (.tup (x :: l)), .un]) (c := .call Fis_moment (.cons (.var 1) .nil)) (by omega) (by simp) (fun y hy => by
          simp [moment_B (μ := μ) (okNs_mem ho y hy)])
        have e2 := eq_bad (μ := μ) (p := momB) (show m ≤ 63 by omega) ho
        obtain ⟨L, hL⟩ : ∃ L, (x :: l).filter (fun y => !momB y) = L := ⟨_, rfl⟩
        rw [hL] at e e2
        cases ha : (x :: l).all momB with
        | false =>
          rw [ha] at e2
          simp only [List.length_cons] at k1 k12 h12
          simp at k12
          have ha2 : (momB x && l.all momB) = false := by rw [← List.all_cons]; exact ha
          have hp : patB (.tup (x :: l)) = false := by
            show (decide (1 ≤ (x :: l).length) && decide ((x :: l).length ≤ 12) && (x :: l).all momB && majB x) = false
            rw [ha]
            simp
          rw [hp]
          have kk1 : decide ((1 : Int) ≤ (l.length : Int) + 1) = true := decide_eq_true (by omega)
          simp [Fis_pattern, B_is_pattern, go, szL, kk1, k12, kcomp, wipeS, e, e2]
        | true =>
          rw [ha] at e2
          have hx : momB x = true := List.all_eq_true.mp ha x (by simp)
          have hmx : ∃ w b, x = .tup [.str w, .bl b] ∧ PyData.strOk w = true := by
            unfold momB at hx
            split at hx
            · rename_i w b
              have := okNs_mem ho (.tup [.str w, .bl b]) (by simp)
              obtain ⟨m2, rfl, ho2⟩ := ok_tup this
              exact ⟨w, b, rfl, okS (okNs_mem ho2 (.str w) (by simp))⟩
            · cases hx
          obtain ⟨w, b, rfl, hw⟩ := hmx
          have e3 := eq_str (μ := μ) hw (w := "major") (by decide +kernel)
          simp only [List.length_cons] at k1 k12 h12
          simp at k12
          have k12' : l.length + 1 ≤ 12 := h12
          have hall : (momB (.tup [.str w, .bl b]) && l.all momB) = true := by rw [← List.all_cons]; exact ha
          have hp : patB (.tup (.tup [.str w, .bl b] :: l)) = (w == ("major" : Str)) := by
            show (decide (1 ≤ (D.tup [.str w, .bl b] :: l).length) && decide ((D.tup [.str w, .bl b] :: l).length ≤ 12) && (D.tup [.str w, .bl b] :: l).all momB && (w == ("major" : Str))) = _
            rw [ha]
            simp [k12']
          rw [hp]
          have kk1 : decide ((1 : Int) ≤ (l.length : Int) + 1) = true := decide_eq_true (by omega)
          simp [Fis_pattern, B_is_pattern, go, szL, kk1, k12, kcomp, wipeS, e, e2, e3]
      · have k1 : (1 : Int) ≤ ((x :: l).length : Int) := by simp; omega
        have k12 : ¬ ((x :: l).length : Int) ≤ 12 := by omega
        simp only [List.length_cons] at k1 k12 h12
        have h12' : ¬ l.length + 1 ≤ 12 := h12
        have hp : patB (.tup (x :: l)) = false := by
          unfold patB
          simp [h12']
        rw [hp]
        have kk1 : decide ((1 : Int) ≤ (l.length : Int) + 1) = true := decide_eq_true (by omega)
        have kk12 : decide ((l.length : Int) + 1 ≤ 12) = false := decide_eq_false (by omega)
        simp [Fis_pattern, B_is_pattern, go, szL, kk1, kk12]
  | _ => simp [Fis_pattern, B_is_pattern, go, patB]
end
end Kv
set_option Elab.async false
set_option linter.all false
set_option maxRecDepth 100000
set_option maxHeartbeats 4000000
/-! Kvd: any values: what the law's checks say of them. -/
namespace Kv
open PySem L2 Mi Pg Ev Dr Mm
section
variable {μ : List Mo} {n : Nat}
theorem lwhole_B {d : D} (h : okN n d = true) {lo hi : Int} : F_law_is_whole [d, .int lo, .int hi] μ = some (.ok (.bl (wholeB lo hi d)), μ) := by
  cases d with
  | int i =>
    by_cases h1 : lo ≤ i
    · simp [F_law_is_whole, B__law_is_whole, go, wholeB, h1]
    · simp [F_law_is_whole, B__law_is_whole, go, wholeB, h1]
  | ty _ => cases n <;> simp [okN] at h
  | glo _ => cases n <;> simp [okN] at h
  | obj _ => cases n <;> simp [okN] at h
  | scr _ => cases n <;> simp [okN] at h
  | _ => simp [F_law_is_whole, B__law_is_whole, go, wholeB]
theorem lfrom_B {d : D} (h : okN n d = true) {nc ns : Int} {w : Str} (hw : timeB w = true) : F_law_is_from [.tup [.int nc, .int ns], .str w, d] μ = some (.ok (.bl (srcB nc w d)), μ) := by
  have hwk : inD μ (.str w) (.lst [.str "card", .str "hole", .str "plain"]) = some (cardyB w) := by
    have hc : w = "card" ∨ w = "hole" ∨ w = "plain" ∨ w = "minor" ∨ w = "major" := by
      simp [timeB] at hw
      rcases hw with (((h | h) | h) | h) | h <;> simp [h]
    rcases hc with rfl | rfl | rfl | rfl | rfl <;> kernel_rfl
  have other : ∀ d : D, okN n d = true → (∀ z, d ≠ .str z) → Bi.do .isi μ [d, .ty "str"] = some (.bl false) → F_law_is_from [.tup [.int nc, .int ns], .str w, d] μ = some (.ok (.bl (wholeB 0 (nc - 1) d)), μ) := by
    intro d hd hn hi
    have := lwhole_B (μ := μ) hd (lo := 0) (hi := nc - 1)
    simp [F_law_is_from, B__law_is_from, go, hi, this]
  cases d with
  | str z =>
    have h1 := in_strl (μ := μ) (okS h) (ws := ["x", "y"]) (by decide +kernel)
    simp at h1
    cases hx : (z == ("x" : Str) || z == ("y" : Str)) with
    | true =>
      simp at hx
      have h2 : inD μ (.str z) (.lst [.str "x", .str "y"]) = some true := by rw [h1]; simp [hx]
      simp [F_law_is_from, B__law_is_from, go, szL, h2, hwk, srcB, hx]
    | false =>
      simp at hx
      have h2 : inD μ (.str z) (.lst [.str "x", .str "y"]) = some false := by rw [h1]; simp [hx]
      simp [F_law_is_from, B__law_is_from, go, szL, h2, srcB, hx]
  | ty _ => cases n <;> simp [okN] at h
  | glo _ => cases n <;> simp [okN] at h
  | obj _ => cases n <;> simp [okN] at h
  | scr _ => cases n <;> simp [okN] at h
  | non => exact other _ h (by simp) (by simp)
  | bl _ => exact other _ h (by simp) (by simp)
  | int _ => exact other _ h (by simp) (by simp)
  | tup _ => exact other _ h (by simp) (by simp)
  | lst _ => exact other _ h (by simp) (by simp)
theorem in_23 (i : Int) : inD μ (.int i) (.tup [.int 2, .int 3]) = some (decide (i = 2) || decide (i = 3)) := by
  rw [inD_t (ok_int 64 i) rfl]
  simp only [List.any_cons, List.any_nil, Bool.or_false, eqb]
  congr 1
  by_cases a : i = 2
  · subst a; rfl
  · by_cases b : i = 3
    · subst b; rfl
    · simp [a, b]; exact ⟨fun e => a e.symm, fun e => b e.symm⟩
theorem lact_B {d : D} (h : okN n d = true) (hn : n ≤ 63) {nc ns : Int} {w : Str} (hw : timeB w = true) : F_law_is_act [.tup [.int nc, .int ns], .str w, d] μ = some (.ok (.bl (actB nc ns w d)), μ) := by
  cases d with
  | ty _ => cases n <;> simp [okN] at h
  | glo _ => cases n <;> simp [okN] at h
  | obj _ => cases n <;> simp [okN] at h
  | scr _ => cases n <;> simp [okN] at h
  | tup ds =>
    obtain ⟨m, rfl, ho⟩ := ok_tup h
    match ds, ho with
    | [], _ => simp [F_law_is_act, B__law_is_act, go, actB, szL, in_23]
    | [x], _ => simp [F_law_is_act, B__law_is_act, go, actB, szL, in_23]
    | x :: y :: z :: u :: l, _ =>
      have h1 : ¬ ((l.length : Int) + 1 + 1 + 1 + 1 = 2) := by omega
      have h2 : ¬ ((l.length : Int) + 1 + 1 + 1 + 1 = 3) := by omega
      simp [F_law_is_act, B__law_is_act, go, actB, szL, in_23, h1, h2]
    | [x, a], ho =>
      have hox := okNs_mem ho x (by simp)
      have hoa := okNs_mem ho a (by simp)
      cases x with
      | str z =>
        have hz := okS hox
        have e2 := eq_str (μ := μ) hz (w := "clear") (by decide +kernel)
        have e4 := eq_str (μ := μ) hz (w := "print") (by decide +kernel)
        have ew := lwhole_B (μ := μ) hoa (lo := 0) (hi := nc - 1)
        cases c2 : (z == ("clear" : Str)) with
        | true =>
          rw [c2] at e2
          simp [F_law_is_act, B__law_is_act, go, actB, szL, in_23, e2, c2, ew]
        | false =>
          rw [c2] at e2
          cases c4 : (z == ("print" : Str)) with
          | false =>
            rw [c4] at e4
            simp [F_law_is_act, B__law_is_act, go, actB, szL, in_23, e2, c2, e4, c4]
          | true =>
            rw [c4] at e4
            cases a with
            | ty _ => cases m <;> simp [okN] at hoa
            | glo _ => cases m <;> simp [okN] at hoa
            | obj _ => cases m <;> simp [okN] at hoa
            | scr _ => cases m <;> simp [okN] at hoa
            | tup its =>
              obtain ⟨m2, rfl, ho2⟩ := ok_tup hoa
              by_cases h1 : 1 ≤ its.length
              · by_cases h3 : its.length ≤ 3
                · have k1 : (1 : Int) ≤ its.length := by omega
                  have k3 : (its.length : Int) ≤ 3 := by omega
                  have e := comp_bad (μ := μ) (xs := its) (p := srcB nc w) (i := 3) (δ := [.d (.tup [.int nc, .int ns]), .d (.str w), .d (.tup [.str z, .tup its]), .un]) (c := .call F_law_is_from (.cons (.var 0) (.cons (.var 1) (.cons (.var 3) .nil)))) (by omega) (by simp) (fun x hx => by
                    simp [lfrom_B (μ := μ) (okNs_mem ho2 x hx) hw])
                  have e5 := eq_bad (μ := μ) (p := srcB nc w) (show m2 ≤ 63 by omega) ho2
                  simp [F_law_is_act, B__law_is_act, go, actB, szL, in_23, e2, c2, e4, c4, k1, k3, kcomp, wipeS, e, e5, printB, h1, h3]
                · have k1 : (1 : Int) ≤ its.length := by omega
                  have k3 : ¬ (its.length : Int) ≤ 3 := by omega
                  simp [F_law_is_act, B__law_is_act, go, actB, szL, in_23, e2, c2, e4, c4, k1, k3, printB, h3]
              · have k1 : ¬ (1 : Int) ≤ its.length := by omega
                simp [F_law_is_act, B__law_is_act, go, actB, szL, in_23, e2, c2, e4, c4, k1, printB, h1]
            | _ => simp [F_law_is_act, B__law_is_act, go, actB, szL, in_23, e2, c2, e4, c4, printB]
      | ty _ => cases m <;> simp [okN] at hox
      | glo _ => cases m <;> simp [okN] at hox
      | obj _ => cases m <;> simp [okN] at hox
      | scr _ => cases m <;> simp [okN] at hox
      | _ => simp [F_law_is_act, B__law_is_act, go, actB, szL, in_23]
    | [x, a, b], ho =>
      have hox := okNs_mem ho x (by simp)
      have hoa := okNs_mem ho a (by simp)
      have hob := okNs_mem ho b (by simp)
      cases x with
      | str z =>
        have hz := okS hox
        have e1 := in_addless (μ := μ) hz
        have e3 := eq_str (μ := μ) hz (w := "set") (by decide +kernel)
        have ea := lwhole_B (μ := μ) hoa (lo := 0) (hi := ns - 1)
        have eb := lwhole_B (μ := μ) hob (lo := 0) (hi := nc - 1)
        have es := lfrom_B (μ := μ) hoa (nc := nc) (ns := ns) hw
        have hbb := isbl (μ := μ) hob
        cases c3 : (z == ("set" : Str)) with
        | true =>
          rw [c3] at e3
          have c1 : (z == ("add" : Str) || z == ("less" : Str)) = false := by
            simp at c3
            subst c3
            decide +kernel
          cases hq : wholeB 0 (ns - 1) a with
          | true =>
            rw [hq] at ea
            simp [F_law_is_act, B__law_is_act, go, actB, szL, in_23, e3, c3, c1, ea, hq, hbb]
          | false =>
            rw [hq] at ea
            simp [F_law_is_act, B__law_is_act, go, actB, szL, in_23, e3, c3, c1, ea, hq]
        | false =>
          rw [c3] at e3
          cases c1 : (z == ("add" : Str) || z == ("less" : Str)) with
          | true =>
            rw [c1] at e1
            cases hq : srcB nc w a with
            | true =>
              rw [hq] at es
              simp [F_law_is_act, B__law_is_act, go, actB, szL, in_23, e3, c1, e1, es, hq, eb]
            | false =>
              rw [hq] at es
              simp [F_law_is_act, B__law_is_act, go, actB, szL, in_23, e3, c1, e1, es, hq]
          | false =>
            rw [c1] at e1
            simp [F_law_is_act, B__law_is_act, go, actB, szL, in_23, e3, c3, c1, e1]
      | ty _ => cases m <;> simp [okN] at hox
      | glo _ => cases m <;> simp [okN] at hox
      | obj _ => cases m <;> simp [okN] at hox
      | scr _ => cases m <;> simp [okN] at hox
      | _ => simp [F_law_is_act, B__law_is_act, go, actB, szL, in_23]
  | _ => simp [F_law_is_act, B__law_is_act, go, actB]
theorem lone_B {d : D} (h : okN n d = true) : F_law_is_one_of [d, .lst [.str "card", .str "hole", .str "plain", .str "minor", .str "major"]] μ = some (.ok (.bl (match d with
    | .str w => timeB w
    | _ => false)), μ) := by
  cases d with
  | ty _ => cases n <;> simp [okN] at h
  | glo _ => cases n <;> simp [okN] at h
  | obj _ => cases n <;> simp [okN] at h
  | scr _ => cases n <;> simp [okN] at h
  | str z =>
    have := in_strl (μ := μ) (okS h) (ws := ["card", "hole", "plain", "minor", "major"]) (by decide +kernel)
    simp at this
    simp [F_law_is_one_of, B__law_is_one_of, go, this, timeB, Bool.or_assoc]
  | _ => simp [F_law_is_one_of, B__law_is_one_of, go]
theorem lwire_B {d : D} (h : okN n d = true) (hn : n ≤ 63) {nc ns : Int} : F_law_is_wire [.tup [.int nc, .int ns], d] μ = some (.ok (.bl (wireB nc ns d)), μ) := by
  cases d with
  | ty _ => cases n <;> simp [okN] at h
  | glo _ => cases n <;> simp [okN] at h
  | obj _ => cases n <;> simp [okN] at h
  | scr _ => cases n <;> simp [okN] at h
  | tup ds =>
    obtain ⟨m, rfl, ho⟩ := ok_tup h
    match ds, ho with
    | [], _ => simp [F_law_is_wire, B__law_is_wire, go, wireB]
    | [x], _ => simp [F_law_is_wire, B__law_is_wire, go, wireB]
    | [x, y], _ => simp [F_law_is_wire, B__law_is_wire, go, wireB]
    | x :: y :: z :: u :: l, _ =>
      have : ¬ ((l.length : Int) + 1 + 1 + 1 + 1 = 3) := by omega
      simp [F_law_is_wire, B__law_is_wire, go, wireB, this]
    | [x, s, a], ho =>
      have hx := okNs_mem ho x (by simp)
      have hs := okNs_mem ho s (by simp)
      have ha := okNs_mem ho a (by simp)
      have hwd := lone_B (μ := μ) hx
      cases x with
      | str w =>
        cases hw : timeB w with
        | false =>
          simp [hw] at hwd
          simp [F_law_is_wire, B__law_is_wire, go, wireB, szL, hwd, hw]
        | true =>
          simp [hw] at hwd
          have hact := lact_B (μ := μ) ha (by omega) (nc := nc) (ns := ns) hw
          cases s with
          | ty _ => cases m <;> simp [okN] at hs
          | glo _ => cases m <;> simp [okN] at hs
          | obj _ => cases m <;> simp [okN] at hs
          | scr _ => cases m <;> simp [okN] at hs
          | non => simp [F_law_is_wire, B__law_is_wire, go, wireB, szL, hwd, hw, swB, hact]
          | tup ss =>
            obtain ⟨m2, rfl, ho2⟩ := ok_tup hs
            match ss, ho2 with
            | [], _ => simp [F_law_is_wire, B__law_is_wire, go, wireB, szL, hwd, swB]
            | [p], _ => simp [F_law_is_wire, B__law_is_wire, go, wireB, szL, hwd, swB]
            | p :: q :: u :: l, _ =>
              have : ¬ ((l.length : Int) + 1 + 1 + 1 = 2) := by omega
              simp [F_law_is_wire, B__law_is_wire, go, wireB, szL, hwd, swB, this]
            | [p, q], ho2 =>
              have hp := lwhole_B (μ := μ) (okNs_mem ho2 p (by simp)) (lo := 0) (hi := ns - 1)
              have hq := okNs_mem ho2 q (by simp)
              cases q with
              | bl b =>
                cases hpw : wholeB 0 (ns - 1) p with
                | true =>
                  rw [hpw] at hp
                  simp [F_law_is_wire, B__law_is_wire, go, wireB, szL, hwd, swB, hp, hpw, hact, hw]
                | false =>
                  rw [hpw] at hp
                  simp [F_law_is_wire, B__law_is_wire, go, wireB, szL, hwd, swB, hp, hpw]
              | ty _ => cases m2 <;> simp [okN] at hq
              | glo _ => cases m2 <;> simp [okN] at hq
              | obj _ => cases m2 <;> simp [okN] at hq
              | scr _ => cases m2 <;> simp [okN] at hq
              | _ => simp [F_law_is_wire, B__law_is_wire, go, wireB, szL, hwd, swB]
          | _ => simp [F_law_is_wire, B__law_is_wire, go, wireB, szL, hwd, swB]
      | ty _ => cases m <;> simp [okN] at hx
      | glo _ => cases m <;> simp [okN] at hx
      | obj _ => cases m <;> simp [okN] at hx
      | scr _ => cases m <;> simp [okN] at hx
      | _ => simp at hwd; simp [F_law_is_wire, B__law_is_wire, go, wireB, szL, hwd]
  | _ => simp [F_law_is_wire, B__law_is_wire, go, wireB]
theorem lboard_B {d : D} (h : okN n d = true) (hn : n ≤ 63) (hl : ∀ a b ws, d = .tup [a, b, .tup ws] → ws.length ≤ 1000000) : F_law_is_board [d] μ = some (.ok (.bl (boardB d)), μ) := by
  cases d with
  | ty _ => cases n <;> simp [okN] at h
  | glo _ => cases n <;> simp [okN] at h
  | obj _ => cases n <;> simp [okN] at h
  | scr _ => cases n <;> simp [okN] at h
  | tup ds =>
    obtain ⟨m, rfl, ho⟩ := ok_tup h
    match ds, ho with
    | [], _ => simp [F_law_is_board, B__law_is_board, go, boardB]
    | [x], _ => simp [F_law_is_board, B__law_is_board, go, boardB]
    | [x, y], _ => simp [F_law_is_board, B__law_is_board, go, boardB]
    | x :: y :: z :: u :: l, _ =>
      have : ¬ ((l.length : Int) + 1 + 1 + 1 + 1 = 3) := by omega
      simp [F_law_is_board, B__law_is_board, go, boardB, this]
    | [x, y, z], ho =>
      have hx := okNs_mem ho x (by simp)
      have hy := okNs_mem ho y (by simp)
      have hz := okNs_mem ho z (by simp)
      have ex := lwhole_B (μ := μ) hx (lo := 0) (hi := 3)
      have ey := lwhole_B (μ := μ) hy (lo := 0) (hi := 2)
      cases bx : wholeB 0 3 x with
      | false =>
        rw [bx] at ex
        have hb : boardB (.tup [x, y, z]) = false := by
          unfold boardB
          split
          · rename_i a b c e
            simp at e
            obtain ⟨rfl, _⟩ := e
            simp [bx]
          · rfl
        simp [F_law_is_board, B__law_is_board, go, ex, hb]
      | true =>
        rw [bx] at ex
        obtain ⟨nc, rfl, _⟩ := whole_int bx
        cases bY : wholeB 0 2 y with
        | false =>
          rw [bY] at ey
          have hb : boardB (.tup [.int nc, y, z]) = false := by
            unfold boardB
            split
            · rename_i a b c e
              simp at e
              obtain ⟨rfl, rfl, _⟩ := e
              simp [bY]
            · rfl
          simp [F_law_is_board, B__law_is_board, go, ex, ey, hb]
        | true =>
          rw [bY] at ey
          obtain ⟨ns, rfl, _⟩ := whole_int bY
          cases z with
          | ty _ => cases m <;> simp [okN] at hz
          | glo _ => cases m <;> simp [okN] at hz
          | obj _ => cases m <;> simp [okN] at hz
          | scr _ => cases m <;> simp [okN] at hz
          | tup ws =>
            obtain ⟨m2, rfl, ho2⟩ := ok_tup hz
            by_cases h8 : ws.length ≤ 8
            · have k8 : ¬ (8 : Int) < ws.length := by omega
              have e := comp_bad (μ := μ) (xs := ws) (p := wireB nc ns) (i := 1) (δ := [.d (.tup [.int nc, .int ns, .tup ws]), .un]) (c := .call F_law_is_wire (.cons (.slc (.var 0) .no (.yes (.con (.int (2))))) (.cons (.var 1) .nil))) (by omega) (by simp) (fun x hx => by
                simp [cut2, lwire_B (μ := μ) (okNs_mem ho2 x hx) (by omega)])
              have e2 := eq_bad (μ := μ) (p := wireB nc ns) (show m2 ≤ 63 by omega) ho2
              simp [F_law_is_board, B__law_is_board, go, ex, ey, k8, kcomp, wipeS, e, szL, e2, boardB, bx, bY, h8]
            · have k8 : (8 : Int) < ws.length := by omega
              simp [F_law_is_board, B__law_is_board, go, ex, ey, k8, boardB, h8]
          | _ => simp [F_law_is_board, B__law_is_board, go, ex, ey, boardB]
  | _ => simp [F_law_is_board, B__law_is_board, go, boardB]
end
end Kv
set_option Elab.async false
set_option linter.all false
set_option maxRecDepth 100000
set_option maxHeartbeats 4000000
/-! Kve: any values: rows, cards, decks, patterns by the law; the pattern of a deck. -/
namespace Kv
open PySem L2 Mi Pg Ev Dr Mm
section
variable {μ : List Mo} {n : Nat}
theorem in_12d (i : Int) : inD μ (.int i) (.tup [.int 1, .int 2]) = some (decide (i = 1) || decide (i = 2)) := by
  rw [inD_t (ok_int 64 i) rfl]
  simp only [List.any_cons, List.any_nil, Bool.or_false, eqb]
  congr 1
  by_cases a : i = 1
  · subst a; rfl
  · by_cases b : i = 2
    · subst b; rfl
    · simp [a, b]; exact ⟨fun e => a e.symm, fun e => b e.symm⟩
theorem lrow_B {d : D} (h : okN n d = true) (hn : n ≤ 63) {k : Nat} (hz : szN k d = true) : F_law_is_chain [d] μ = some (.ok (.bl (rowB d)), μ) := by
  cases d with
  | ty _ => cases n <;> simp [okN] at h
  | glo _ => cases n <;> simp [okN] at h
  | obj _ => cases n <;> simp [okN] at h
  | scr _ => cases n <;> simp [okN] at h
  | tup ds =>
    obtain ⟨m, rfl, ho⟩ := ok_tup h
    obtain ⟨k, rfl⟩ : ∃ j, k = j + 1 := by cases k with
      | zero => simp [szN] at hz
      | succ k => exact ⟨k, rfl⟩
    have hin := fun i : Int => in_12d (μ := μ) i
    match ds, ho with
    | [], _ => simp [F_law_is_chain, B__law_is_chain, go, rowB, szL, hin]
    | x :: y :: z :: l, _ =>
      have h1 : ¬ ((l.length : Int) + 1 + 1 + 1 = 1) := by omega
      have h2 : ¬ ((l.length : Int) + 1 + 1 + 1 = 2) := by omega
      simp [F_law_is_chain, B__law_is_chain, go, rowB, szL, hin, h1, h2]
    | [a], ho =>
      have ha := okNs_mem ho a (by simp)
      have sa : szN k a = true := by simp [szN] at hz; exact hz
      have ea := lboard_B (μ := μ) ha (by omega) (sz_board sa)
      have e := comp_bad (μ := μ) (xs := [a]) (p := boardB) (i := 1) (δ := [.d (.tup [a]), .un]) (c := .call F_law_is_board (.cons (.var 1) .nil)) (by simp) (by simp) (fun x hx => by
        simp at hx; subst hx; simp [ea])
      have e2 := eq_bad (μ := μ) (p := boardB) (show m ≤ 63 by omega) ho
      cases hb : boardB a with
      | false =>
        simp [hb] at e e2
        simp [F_law_is_chain, B__law_is_chain, go, rowB, szL, hin, kcomp, wipeS, e, e2, hb]
      | true =>
        obtain ⟨x, y, ws, rfl, h8, hw⟩ := wsL_le hb
        simp [hb] at e e2
        have ec : compL (.name 1) (ev (.con (.bl true))) (ev (.bi .len (.cons (.idx (.var 1) (.con (.int (2)))) .nil))) [.d (.tup [.tup [x, y, .tup ws]]), .un] [.tup [x, y, .tup ws]] [] μ = some (.ok (.lst [.int ws.length]), μ) := by
          rw [comp_cons (μ1 := μ) (μ2 := μ) (d := .int ws.length) rfl (by simp) (by simp) (by rw [szL]; exact Nat.succ_pos _), comp_nil]
          rfl
        have hs : Bi.do .sum μ [.lst [.int ws.length]] = some (.int ws.length) := by
          show some (D.int (([(ws.length : Int)] : List Int).sum)) = _
          simp
        have h8' : (ws.length : Int) < 9 := by omega
        simp [F_law_is_chain, B__law_is_chain, go, rowB, szL, hin, kcomp, wipeS, e, e2, hb, ec, hs, h8']
    | [a, b], ho =>
      have ha := okNs_mem ho a (by simp)
      have hb := okNs_mem ho b (by simp)
      have sa : szN k a = true ∧ szN k b = true := by simp [szN] at hz; exact hz
      have ea := lboard_B (μ := μ) ha (by omega) (sz_board sa.1)
      have eb := lboard_B (μ := μ) hb (by omega) (sz_board sa.2)
      have e := comp_bad (μ := μ) (xs := [a, b]) (p := boardB) (i := 1) (δ := [.d (.tup [a, b]), .un]) (c := .call F_law_is_board (.cons (.var 1) .nil)) (by simp) (by simp) (fun x hx => by
        simp at hx; rcases hx with rfl | rfl
        · simp [ea]
        · simp [eb])
      have e2 := eq_bad (μ := μ) (p := boardB) (show m ≤ 63 by omega) ho
      cases hba : boardB a with
      | false =>
        simp [hba] at e e2
        simp [F_law_is_chain, B__law_is_chain, go, rowB, szL, hin, kcomp, wipeS, e, e2, hba]
      | true =>
        cases hbb : boardB b with
        | false =>
          simp [hba, hbb] at e e2
          simp [F_law_is_chain, B__law_is_chain, go, rowB, szL, hin, kcomp, wipeS, e, e2, hba, hbb]
        | true =>
          obtain ⟨x, y, ws, rfl, h8, hw⟩ := wsL_le hba
          obtain ⟨x2, y2, ws2, rfl, h82, hw2⟩ := wsL_le hbb
          simp [hba, hbb] at e e2
          have ec : compL (.name 1) (ev (.con (.bl true))) (ev (.bi .len (.cons (.idx (.var 1) (.con (.int (2)))) .nil))) [.d (.tup [.tup [x, y, .tup ws], .tup [x2, y2, .tup ws2]]), .un] [.tup [x, y, .tup ws], .tup [x2, y2, .tup ws2]] [] μ = some (.ok (.lst [.int ws.length, .int ws2.length]), μ) := by
            rw [comp_cons (μ1 := μ) (μ2 := μ) (d := .int ws.length) rfl (by simp) (by simp) (by rw [szL]; exact Nat.succ_pos _), comp_cons (μ1 := μ) (μ2 := μ) (d := .int ws2.length) rfl (by simp) (by simp) (by rw [szL]; show 1 < _; omega), comp_nil]
            rfl
          have hs : Bi.do .sum μ [.lst [.int ws.length, .int ws2.length]] = some (.int (ws.length + ws2.length)) := by
            show some (D.int (([(ws.length : Int), (ws2.length : Int)] : List Int).sum)) = _
            simp
          have hdec : decide ((ws.length : Int) + ws2.length < 9) = decide (ws.length + ws2.length ≤ 8) := by
            apply decide_eq_decide.mpr; omega
          simp [F_law_is_chain, B__law_is_chain, go, rowB, szL, hin, kcomp, wipeS, e, e2, hba, hbb, ec, hs, hw, hw2, hdec]
  | _ => simp [F_law_is_chain, B__law_is_chain, go, rowB]
theorem pow30 : Op.do .pow μ (.int 10) (.int 30) = some (.int 1000000000000000000000000000000) := by kernel_rfl
theorem lcard_B {d : D} (h : okN n d = true) : F_law_is_card [d] μ = some (.ok (.bl (cardB d)), μ) := by
  cases d with
  | ty _ => cases n <;> simp [okN] at h
  | glo _ => cases n <;> simp [okN] at h
  | obj _ => cases n <;> simp [okN] at h
  | scr _ => cases n <;> simp [okN] at h
  | tup ds =>
    obtain ⟨m, rfl, ho⟩ := ok_tup h
    match ds, ho with
    | [], _ => simp [F_law_is_card, B__law_is_card, go, cardB]
    | [_], _ => simp [F_law_is_card, B__law_is_card, go, cardB]
    | [_, _], _ => simp [F_law_is_card, B__law_is_card, go, cardB]
    | [_, _, _], _ => simp [F_law_is_card, B__law_is_card, go, cardB]
    | [_, _, _, _], _ => simp [F_law_is_card, B__law_is_card, go, cardB]
    | _ :: _ :: _ :: _ :: _ :: _ :: l, _ =>
      have : ¬ ((l.length : Int) + 1 + 1 + 1 + 1 + 1 + 1 = 5) := by omega
      simp [F_law_is_card, B__law_is_card, go, cardB, this]
    | [a, b, c, x, y], ho =>
      have hc := isbl (μ := μ) (okNs_mem ho c (by simp))
      have ea := lwhole_B (μ := μ) (okNs_mem ho a (by simp)) (lo := 0) (hi := 1000000000)
      have eb := lwhole_B (μ := μ) (okNs_mem ho b (by simp)) (lo := 0) (hi := 1000000000)
      have ex := lwhole_B (μ := μ) (okNs_mem ho x (by simp)) (lo := -1000000000000000000000000000000) (hi := 1000000000000000000000000000000)
      have ey := lwhole_B (μ := μ) (okNs_mem ho y (by simp)) (lo := -1000000000000000000000000000000) (hi := 1000000000000000000000000000000)
      cases c with
      | bl c =>
        cases qa : wholeB 0 1000000000 a <;> rw [qa] at ea
        · simp [F_law_is_card, B__law_is_card, go, cardB, szL, x_kfor, forL, pow9, pow30, ea, qa]
        · cases qb : wholeB 0 1000000000 b <;> rw [qb] at eb
          · simp [F_law_is_card, B__law_is_card, go, cardB, szL, x_kfor, forL, pow9, pow30, ea, qa, eb, qb]
          · cases qx : wholeB (-1000000000000000000000000000000) 1000000000000000000000000000000 x <;> rw [qx] at ex
            · simp [F_law_is_card, B__law_is_card, go, cardB, szL, x_kfor, forL, pow9, pow30, ea, qa, eb, qb, ex, qx]
            · simp [F_law_is_card, B__law_is_card, go, cardB, szL, x_kfor, forL, pow9, pow30, ea, qa, eb, qb, ex, qx, ey]
      | _ => simp [isBl] at hc; simp [F_law_is_card, B__law_is_card, go, cardB, hc]
  | _ => simp [F_law_is_card, B__law_is_card, go, cardB]
def bodyPk : Ss := match B__law_is_pack with
  | .cons _ (.cons _ (.cons (.for_ _ _ b) _)) => b
  | _ => .nil
theorem key_ltB {a b : Mm.Key} : Op.do (.cm .lt) μ (keyD b) (keyD a) = some (.bl (!kleB a b)) := by
  show (cmD .lt (keyD b) (keyD a)).map D.bl = _
  have e : cmD .lt (keyD b) (keyD a) = some (lexC .lt [b.1, b.2] [a.1, a.2]) := rfl
  rw [e]
  simp only [lexC, Cm.int, kleB]
  show some (D.bl _) = some (D.bl _)
  refine congrArg (fun z => some (D.bl z)) ?_
  by_cases h : a.1 = b.1
  · rw [if_pos h.symm]
    by_cases h2 : a.2 = b.2
    · rw [if_pos h2.symm]
      simp [h, h2]
    · rw [if_neg (fun e => h2 e.symm)]
      rw [Bool.eq_iff_iff]
      simp [h]
      try (constructor <;> intro z <;> omega)
  · rw [if_neg (fun e => h e.symm), Bool.eq_iff_iff]
    simp [h]
    constructor <;> intro z <;> omega
/-- from the key before on -/
def packB : Mm.Key → List D → Bool
  | _, [] => true
  | k, d :: ds => cardB d && (kleB k (keyOf d) && packB (keyOf d) ds)
theorem pack_loop {s0 : Sl} : ∀ (ds : List D) (k : Mm.Key) (c : Sl), okNs n ds = true →
    (packB k ds = true → ∃ f1 f2, forL (.name 2) (exs bodyPk) ds [s0, .d (keyD k), c] μ = some (.nx, [s0, f1, f2], μ)) ∧ (packB k ds = false → ∃ δ, forL (.name 2) (exs bodyPk) ds [s0, .d (keyD k), c] μ = some (.rt (.bl false), δ, μ))
  | [], k, c, _ => ⟨fun _ => ⟨.d (keyD k), c, by simp [forL]⟩, by simp [packB]⟩
  | d :: ds, k, c, ho => by
    have hd := okNs_mem ho d (by simp)
    have hds : okNs n ds = true := by simp only [okNs, Bool.and_eq_true] at ho; exact ho.2
    have ec := lcard_B (μ := μ) hd
    cases hc : cardB d with
    | false =>
      rw [hc] at ec
      refine ⟨fun h => by simp [packB, hc] at h, fun _ => ⟨[s0, .d (keyD k), .d d], ?_⟩⟩
      simp [forL, bodyPk, B__law_is_pack, ec]
    | true =>
      rw [hc] at ec
      obtain ⟨j, m, b, x, y, rfl, hok⟩ := card_inv hc
      have hcut : slD μ (D.tup [.int j, .int m, .bl b, .int x, .int y]) none (some 2) = some (keyD (j, m)) := sl_key (k := (j, m)) (h := b) (x := x) (y := y)
      have hlt := key_ltB (μ := μ) (a := k) (b := (j, m))
      have hk : keyOf (D.tup [.int j, .int m, .bl b, .int x, .int y]) = (j, m) := rfl
      cases hq : kleB k (j, m) with
      | false =>
        rw [hq] at hlt
        refine ⟨fun h => by simp [packB, hc, hk, hq] at h, fun _ => ⟨[s0, .d (keyD k), .d (.tup [.int j, .int m, .bl b, .int x, .int y])], ?_⟩⟩
        simp at hcut hlt
        simp [forL, bodyPk, B__law_is_pack, ec, hcut, hlt]
      | true =>
        rw [hq] at hlt
        obtain ⟨ih1, ih2⟩ := pack_loop (s0 := s0) ds (j, m) (.d (.tup [.int j, .int m, .bl b, .int x, .int y])) hds
        have hp : packB k (D.tup [.int j, .int m, .bl b, .int x, .int y] :: ds) = packB (j, m) ds := by simp [packB, hc, hk, hq]
        rw [hp]
        simp at hcut hlt
        have hstep : exs bodyPk [s0, .d (keyD k), .d (.tup [.int j, .int m, .bl b, .int x, .int y])] μ = some (.nx, [s0, .d (keyD (j, m)), .d (.tup [.int j, .int m, .bl b, .int x, .int y])], μ) := by
          simp [bodyPk, B__law_is_pack, ec, hcut, hlt]
        refine ⟨fun h => ?_, fun h => ?_⟩
        · obtain ⟨f1, f2, e⟩ := ih1 h
          exact ⟨f1, f2, by rw [← e]; simp [forL, hstep]⟩
        · obtain ⟨δ, e⟩ := ih2 h
          exact ⟨δ, by rw [← e]; simp [forL, hstep]⟩
theorem packB_eq : ∀ (ds : List D) (k : Mm.Key), packB k ds = (ds.all cardB && ascB (k :: ds.map keyOf))
  | [], k => by simp [packB, ascB]
  | d :: ds, k => by
    rw [packB, packB_eq ds (keyOf d)]
    simp only [List.all_cons, List.map_cons, ascB]
    cases cardB d <;> cases ds.all cardB <;> cases kleB k (keyOf d) <;> simp
theorem ascB_zero {ds : List D} (h : ds.all cardB = true) : ascB ((0, 0) :: ds.map keyOf) = ascB (ds.map keyOf) := by
  cases ds with
  | nil => rfl
  | cons d ds =>
    simp only [List.all_cons, Bool.and_eq_true] at h
    obtain ⟨j, m, b, x, y, rfl, ho⟩ := card_inv h.1
    have hk : kleB (0, 0) (j, m) = true := by
      have h1 := ho.j0
      have h2 := ho.n0
      simp only at h1 h2
      unfold kleB
      simp only [Bool.or_eq_true, Bool.and_eq_true, decide_eq_true_eq]
      rcases Int.lt_or_eq_of_le h1 with z | z
      · exact .inl z
      · exact .inr ⟨z, h2⟩
    show (kleB (0, 0) (j, m) && _) = _
    rw [hk]
    rfl
theorem lpack_B {d : D} (h : okN n d = true) : F_law_is_pack [d] μ = some (.ok (.bl (deckB d)), μ) := by
  cases d with
  | ty _ => cases n <;> simp [okN] at h
  | glo _ => cases n <;> simp [okN] at h
  | obj _ => cases n <;> simp [okN] at h
  | scr _ => cases n <;> simp [okN] at h
  | tup ds =>
    obtain ⟨m, rfl, ho⟩ := ok_tup h
    by_cases h40 : ds.length ≤ 40
    · have k40 : ¬ (40 : Int) < ds.length := by omega
      have hp : packB (0, 0) ds = deckB (.tup ds) := by
        rw [packB_eq]
        show _ = (decide (ds.length ≤ 40) && ds.all cardB && ascB (ds.map keyOf))
        rw [decide_eq_true h40, Bool.true_and]
        cases ha : ds.all cardB with
        | false => rfl
        | true => rw [ascB_zero ha]
      obtain ⟨l1, l2⟩ := pack_loop (μ := μ) (s0 := .d (.tup ds)) ds (0, 0) .un ho
      rw [hp] at l1 l2
      cases hd : deckB (.tup ds) with
      | true =>
        obtain ⟨f1, f2, e⟩ := l1 hd
        simp [bodyPk, B__law_is_pack, keyD] at e
        simp [F_law_is_pack, B__law_is_pack, go, k40, szL, x_kfor, e]
      | false =>
        obtain ⟨δ, e⟩ := l2 hd
        simp [bodyPk, B__law_is_pack, keyD] at e
        simp [F_law_is_pack, B__law_is_pack, go, k40, szL, x_kfor, e]
    · have k40 : (40 : Int) < ds.length := by omega
      have hd : deckB (.tup ds) = false := by
        show (decide (ds.length ≤ 40) && ds.all cardB && ascB (ds.map keyOf)) = false
        rw [decide_eq_false h40]; rfl
      simp [F_law_is_pack, B__law_is_pack, go, k40, hd]
  | _ => simp [F_law_is_pack, B__law_is_pack, go, deckB]
theorem loneL_B {d : D} (h : okN n d = true) : F_law_is_one_of [d, .lst [.str "none", .str "minor", .str "major"]] μ = some (.ok (.bl (match d with
    | .str w => w == "none" || w == "minor" || w == "major"
    | _ => false)), μ) := by
  cases d with
  | ty _ => cases n <;> simp [okN] at h
  | glo _ => cases n <;> simp [okN] at h
  | obj _ => cases n <;> simp [okN] at h
  | scr _ => cases n <;> simp [okN] at h
  | str z =>
    have := in_strl (μ := μ) (okS h) (ws := ["none", "minor", "major"]) (by decide +kernel)
    simp at this
    simp [F_law_is_one_of, B__law_is_one_of, go, this, Bool.or_assoc]
  | _ => simp [F_law_is_one_of, B__law_is_one_of, go]
def bodyPl : Ss := match B__law_is_plan with
  | .cons _ (.cons (.for_ _ _ b) _) => b
  | _ => .nil
theorem mom_step {s0 : Sl} {d : D} (h : okN n d = true) : exs bodyPl [s0, .d d] μ = if momB d = true then some (.nx, [s0, .d d], μ) else some (.rt (.bl false), [s0, .d d], μ) := by
  cases d with
  | ty _ => cases n <;> simp [okN] at h
  | glo _ => cases n <;> simp [okN] at h
  | obj _ => cases n <;> simp [okN] at h
  | scr _ => cases n <;> simp [okN] at h
  | tup ds =>
    obtain ⟨m, rfl, ho⟩ := ok_tup h
    match ds, ho with
    | [], _ => simp [bodyPl, B__law_is_plan, momB]
    | [_], _ => simp [bodyPl, B__law_is_plan, momB]
    | _ :: _ :: _ :: l, _ =>
      have : ¬ ((l.length : Int) + 1 + 1 + 1 = 2) := by omega
      simp [bodyPl, B__law_is_plan, momB, this]
    | [a, b], ho =>
      have ha := loneL_B (μ := μ) (okNs_mem ho a (by simp))
      have hb := isbl (μ := μ) (okNs_mem ho b (by simp))
      have hoa := okNs_mem ho a (by simp)
      have hob := okNs_mem ho b (by simp)
      cases b with
      | bl b =>
        cases a with
        | str w =>
          simp only at ha
          cases hw : (w == ("none" : Str) || w == ("minor" : Str) || w == ("major" : Str)) with
          | true =>
            rw [hw] at ha
            have : momB (.tup [.str w, .bl b]) = true := hw
            simp [bodyPl, B__law_is_plan, szL, ha, this]
          | false =>
            rw [hw] at ha
            have : momB (.tup [.str w, .bl b]) = false := hw
            simp [bodyPl, B__law_is_plan, szL, ha, this]
        | ty _ => cases m <;> simp [okN] at hoa
        | glo _ => cases m <;> simp [okN] at hoa
        | obj _ => cases m <;> simp [okN] at hoa
        | scr _ => cases m <;> simp [okN] at hoa
        | _ => simp at ha; simp [bodyPl, B__law_is_plan, momB, szL, ha]
      | ty _ => cases m <;> simp [okN] at hob
      | glo _ => cases m <;> simp [okN] at hob
      | obj _ => cases m <;> simp [okN] at hob
      | scr _ => cases m <;> simp [okN] at hob
      | _ => cases a <;> simp [bodyPl, B__law_is_plan, momB, szL]
  | _ => simp [bodyPl, B__law_is_plan, momB]
theorem plan_loop {s0 : Sl} : ∀ (ds : List D) (c : Sl), okNs n ds = true →
    (ds.all momB = true → ∃ f, forL (.name 1) (exs bodyPl) ds [s0, c] μ = some (.nx, [s0, f], μ)) ∧ (ds.all momB = false → ∃ δ, forL (.name 1) (exs bodyPl) ds [s0, c] μ = some (.rt (.bl false), δ, μ))
  | [], c, _ => ⟨fun _ => ⟨c, by simp [forL]⟩, by simp⟩
  | d :: ds, c, ho => by
    have hd := okNs_mem ho d (by simp)
    have hds : okNs n ds = true := by simp only [okNs, Bool.and_eq_true] at ho; exact ho.2
    have hs := mom_step (μ := μ) (s0 := s0) hd
    obtain ⟨i1, i2⟩ := plan_loop (s0 := s0) ds (.d d) hds
    cases hm : momB d with
    | false =>
      rw [hm] at hs
      refine ⟨fun h => by simp [hm] at h, fun _ => ⟨[s0, .d d], ?_⟩⟩
      simp at hs
      simp [forL, hs]
    | true =>
      rw [hm] at hs
      simp at hs
      rw [List.all_cons, hm, Bool.true_and]
      refine ⟨fun h => ?_, fun h => ?_⟩
      · obtain ⟨f, e⟩ := i1 h
        exact ⟨f, by rw [← e]; simp [forL, hs]⟩
      · obtain ⟨δ, e⟩ := i2 h
        exact ⟨δ, by rw [← e]; simp [forL, hs]⟩
theorem lplan_B {d : D} (h : okN n d = true) : F_law_is_plan [d] μ = some (.ok (.bl (patB d)), μ) := by
  cases d with
  | ty _ => cases n <;> simp [okN] at h
  | glo _ => cases n <;> simp [okN] at h
  | obj _ => cases n <;> simp [okN] at h
  | scr _ => cases n <;> simp [okN] at h
  | tup ds =>
    obtain ⟨m, rfl, ho⟩ := ok_tup h
    match ds, ho with
    | [], _ => simp [F_law_is_plan, B__law_is_plan, go, patB]
    | x :: l, ho =>
      have hpe : patB (.tup (x :: l)) = (decide (1 ≤ (x :: l).length) && decide ((x :: l).length ≤ 12) && (x :: l).all momB && majB x) := rfl
      by_cases h12 : (x :: l).length ≤ 12
      · have kk1 : decide ((0 : Int) < (l.length : Int) + 1) = true := decide_eq_true (by omega)
        have kk12 : decide ((l.length : Int) + 1 < 13) = true := decide_eq_true (by simp at h12; omega)
        obtain ⟨i1, i2⟩ := plan_loop (μ := μ) (s0 := .d (.tup (x :: l))) (x :: l) .un ho
        cases ha : (x :: l).all momB with
        | false =>
          obtain ⟨δ, e⟩ := i2 ha
          have hp : patB (.tup (x :: l)) = false := by rw [hpe, ha]; simp
          rw [hp]
          simp only [bodyPl, B__law_is_plan] at e
          simp [F_law_is_plan, B__law_is_plan, go, szL, kk1, kk12, x_kfor, e]
        | true =>
          obtain ⟨f, e⟩ := i1 ha
          have hx : momB x = true := List.all_eq_true.mp ha x (by simp)
          have hmx : ∃ w b, x = .tup [.str w, .bl b] ∧ PyData.strOk w = true := by
            unfold momB at hx
            split at hx
            · rename_i w b
              have := okNs_mem ho (.tup [.str w, .bl b]) (by simp)
              obtain ⟨m2, rfl, ho2⟩ := ok_tup this
              exact ⟨w, b, rfl, okS (okNs_mem ho2 (.str w) (by simp))⟩
            · cases hx
          obtain ⟨w, b, rfl, hw⟩ := hmx
          have e3 := eq_str (μ := μ) hw (w := "major") (by decide +kernel)
          have hp : patB (.tup (.tup [.str w, .bl b] :: l)) = (w == ("major" : Str)) := by
            rw [hpe, ha, decide_eq_true h12]
            simp [majB]
          rw [hp]
          simp only [bodyPl, B__law_is_plan] at e
          simp [F_law_is_plan, B__law_is_plan, go, szL, kk1, kk12, x_kfor, e, e3]
      · have kk1 : decide ((0 : Int) < (l.length : Int) + 1) = true := decide_eq_true (by omega)
        have kk12 : decide ((l.length : Int) + 1 < 13) = false := decide_eq_false (by simp at h12; omega)
        have hp : patB (.tup (x :: l)) = false := by rw [hpe, decide_eq_false h12]; simp
        rw [hp]
        simp [F_law_is_plan, B__law_is_plan, go, szL, kk1, kk12]
  | _ => simp [F_law_is_plan, B__law_is_plan, go, patB]
end
end Kv
set_option Elab.async false
set_option linter.all false
set_option maxRecDepth 100000
set_option maxHeartbeats 4000000
/-! Kvf: any values drawn; values bent. -/
namespace Kv
open PySem L2 Mi Pg Ev Dr Mm
/-- plain values: at most n deep, sizes by s -/
def vN : Nat → Nat → D → Bool
  | _, _, .non => true
  | _, _, .bl _ => true
  | _, s, .int i => decide (i.natAbs < 10 ^ s)
  | _, s, .str z => z.cps.toList.all (fun c => decide (c < 128)) && decide (z.length ≤ s)
  | n + 1, s, .tup xs => decide (xs.length ≤ s) && xs.all (vN n s)
  | n + 1, s, .lst xs => decide (xs.length ≤ s) && xs.all (vN n s)
  | _, _, _ => false
theorem asc_ok {z : Str} (h : z.cps.toList.all (fun c => decide (c < 128)) = true) : PyData.strOk z = true := by
  rw [sok]
  intro c hc
  have := of_decide_eq_true (List.all_eq_true.mp h c hc)
  omega
theorem vN_ok : ∀ (n s : Nat) (d : D), vN n s d = true → okN n d = true
  | _, _, .non, _ => ok_non _
  | _, _, .bl _, _ => ok_bl _ _
  | _, _, .int _, _ => ok_int _ _
  | n, s, .str z, h => by
    have h : (z.cps.toList.all (fun c => decide (c < 128)) && decide (z.length ≤ s)) = true := by cases n <;> simpa [vN] using h
    rw [Bool.and_eq_true] at h
    exact ok_str _ _ (asc_ok h.1)
  | n + 1, s, .tup xs, h => by
    simp only [vN, Bool.and_eq_true] at h
    simp only [okN]
    exact okNs_all fun x hx => vN_ok n s x (List.all_eq_true.mp h.2 x hx)
  | n + 1, s, .lst xs, h => by
    simp only [vN, Bool.and_eq_true] at h
    simp only [okN]
    exact okNs_all fun x hx => vN_ok n s x (List.all_eq_true.mp h.2 x hx)
  | 0, _, .tup _, h => by simp [vN] at h
  | 0, _, .lst _, h => by simp [vN] at h
  | n, _, .ty _, h => by cases n <;> simp [vN] at h
  | n, _, .glo _, h => by cases n <;> simp [vN] at h
  | n, _, .obj _, h => by cases n <;> simp [vN] at h
  | n, _, .scr _, h => by cases n <;> simp [vN] at h
theorem vN_sz : ∀ (n s : Nat) (d : D), s ≤ 100000 → vN n s d = true → szN n d = true
  | n, _, .non, _, _ => by cases n <;> rfl
  | n, _, .bl _, _, _ => by cases n <;> rfl
  | n, _, .int _, _, _ => by cases n <;> rfl
  | n, _, .str _, _, _ => by cases n <;> rfl
  | n + 1, s, .tup xs, hs, h => by
    simp only [vN, Bool.and_eq_true, decide_eq_true_eq] at h
    simp only [szN, Bool.and_eq_true, decide_eq_true_eq]
    exact ⟨by omega, List.all_eq_true.mpr fun x hx => vN_sz n s x hs (List.all_eq_true.mp h.2 x hx)⟩
  | n + 1, s, .lst xs, hs, h => by
    simp only [vN, Bool.and_eq_true, decide_eq_true_eq] at h
    simp only [szN, Bool.and_eq_true, decide_eq_true_eq]
    exact ⟨by omega, List.all_eq_true.mpr fun x hx => vN_sz n s x hs (List.all_eq_true.mp h.2 x hx)⟩
  | 0, _, .tup _, _, h => by simp [vN] at h
  | 0, _, .lst _, _, h => by simp [vN] at h
  | n, _, .ty _, _, h => by cases n <;> simp [vN] at h
  | n, _, .glo _, _, h => by cases n <;> simp [vN] at h
  | n, _, .obj _, _, h => by cases n <;> simp [vN] at h
  | n, _, .scr _, _, h => by cases n <;> simp [vN] at h
theorem vN_mono : ∀ (n m s t : Nat) (d : D), n ≤ m → s ≤ t → vN n s d = true → vN m t d = true
  | _, m, _, _, .non, _, _, _ => by cases m <;> rfl
  | _, m, _, _, .bl _, _, _, _ => by cases m <;> rfl
  | n, m, s, t, .int i, _, hs, h => by
    have h : i.natAbs < 10 ^ s := by cases n <;> simpa [vN] using h
    have : 10 ^ s ≤ 10 ^ t := Nat.pow_le_pow_right (by decide) hs
    have h2 : i.natAbs < 10 ^ t := by omega
    cases m <;> simpa [vN] using h2
  | n, m, s, t, .str z, _, hs, h => by
    have h : z.cps.toList.all (fun c => decide (c < 128)) = true ∧ z.length ≤ s := by
      have : (z.cps.toList.all (fun c => decide (c < 128)) && decide (z.length ≤ s)) = true := by cases n <;> simpa [vN] using h
      rw [Bool.and_eq_true] at this
      exact ⟨this.1, of_decide_eq_true this.2⟩
    have : (z.cps.toList.all (fun c => decide (c < 128)) && decide (z.length ≤ t)) = true := by
      rw [h.1, Bool.true_and]; exact decide_eq_true (by omega)
    cases m <;> simpa [vN] using this
  | n + 1, m + 1, s, t, .tup xs, hm, hs, h => by
    simp only [vN, Bool.and_eq_true, decide_eq_true_eq] at h ⊢
    exact ⟨by omega, List.all_eq_true.mpr fun x hx => vN_mono n m s t x (by omega) hs (List.all_eq_true.mp h.2 x hx)⟩
  | n + 1, m + 1, s, t, .lst xs, hm, hs, h => by
    simp only [vN, Bool.and_eq_true, decide_eq_true_eq] at h ⊢
    exact ⟨by omega, List.all_eq_true.mpr fun x hx => vN_mono n m s t x (by omega) hs (List.all_eq_true.mp h.2 x hx)⟩
  | n + 1, 0, _, _, .tup _, hm, _, _ => by omega
  | n + 1, 0, _, _, .lst _, hm, _, _ => by omega
  | 0, _, _, _, .tup _, _, _, h => by simp [vN] at h
  | 0, _, _, _, .lst _, _, _, h => by simp [vN] at h
  | n, _, _, _, .ty _, _, _, h => by cases n <;> simp [vN] at h
  | n, _, _, _, .glo _, _, _, h => by cases n <;> simp [vN] at h
  | n, _, _, _, .obj _, _, _, h => by cases n <;> simp [vN] at h
  | n, _, _, _, .scr _, _, _, h => by cases n <;> simp [vN] at h
theorem vN_tup {n s : Nat} {xs : List D} (h : vN n s (.tup xs) = true) : ∃ m, n = m + 1 ∧ xs.length ≤ s ∧ ∀ x ∈ xs, vN m s x = true := by
  cases n with
  | zero => simp [vN] at h
  | succ m =>
    simp only [vN, Bool.and_eq_true, decide_eq_true_eq] at h
    exact ⟨m, rfl, h.1, fun x hx => List.all_eq_true.mp h.2 x hx⟩
theorem vN_mk {m s : Nat} {xs : List D} (hl : xs.length ≤ s) (h : ∀ x ∈ xs, vN m s x = true) : vN (m + 1) s (.tup xs) = true := by
  simp only [vN, Bool.and_eq_true, decide_eq_true_eq]
  exact ⟨hl, List.all_eq_true.mpr h⟩
theorem vN_mkl {m s : Nat} {xs : List D} (hl : xs.length ≤ s) (h : ∀ x ∈ xs, vN m s x = true) : vN (m + 1) s (.lst xs) = true := by
  simp only [vN, Bool.and_eq_true, decide_eq_true_eq]
  exact ⟨hl, List.all_eq_true.mpr h⟩
/-! ### odd values -/
def oddL : List D := [.non, .bl true, .bl false, .int 0, .int 1, .int 2, .int 3, .int (-1), .int 10000000000000000000000000000000, .str "", .str "x", .str "y", .str "card", .str "minor", .str "print", .str "set", .tup [], .lst [],
  .tup [.int 0, .bl true], .tup [.str "print", .tup [.str "x"]], .tup [.str "add", .str "x", .int 0], .tup [.str "none", .bl true], .tup [.int 1, .int 1, .bl true, .int 2, .int 3], .tup [.int 0, .int 0, .tup []]]
theorem oddL_ok : ∀ d ∈ oddL, vN 2 45 d = true := by decide +kernel
section
variable {k : Nat} {μ : List Mo}
theorem pow31 : Op.do .pow μ (.int 10) (.int 31) = some (.int 10000000000000000000000000000000) := by kernel_rfl
theorem odd_base {F : Sem} (v : Vat μ k) {dep : Nat} (rest : ∀ μ1, Vat μ1 k → dep ≠ 0 → Gives k μ1 (fun r => vN (dep + 2) 45 r = true) (fin (exs (dropS 3 (B__law_odd F)) [.d (.obj k), .d (.int dep), .d (.lst oddL), .un, .un] μ1))) : Gives k μ (fun r => vN (dep + 2) 45 r = true) (run 2 5 (B__law_odd F) [.obj k, .int dep] μ) := by
  have done : ∀ μ1, Vat μ1 k → ∃ d μ2, F_law_some [.obj k, .lst oddL] μ1 = some (.ok d, μ2) ∧ Dn k μ1 μ2 ∧ vN (dep + 2) 45 d = true := by
    intro μ1 v1
    obtain ⟨d, hd, μ2, e, dn⟩ := some_spec (xs := oddL) v1 (by simp [oddL]) (by simp [oddL])
    exact ⟨d, μ2, e, dn, vN_mono 2 (dep + 2) 45 45 d (by omega) (Nat.le_refl _) (oddL_ok d hd)⟩
  by_cases h0 : dep = 0
  · subst h0
    obtain ⟨d, μ2, e, dn, q⟩ := done μ v
    refine ⟨d, μ2, ?_, dn, q⟩
    simp only [oddL] at e
    simp [B__law_odd, go, szL, pow31, e]
  · have hd0 : ¬ ((dep : Int) = 0) := by omega
    obtain ⟨q, μ1, e1, d1, q0, q1⟩ := under_spec (m := 9) v (by decide) (by decide)
    by_cases h6 : q < 6
    · obtain ⟨d, μ2, e, dn, q⟩ := done μ1 d1.vat
      refine ⟨d, μ2, ?_, d1.trans dn, q⟩
      simp only [oddL] at e
      simp [B__law_odd, go, szL, pow31, hd0, h0, e1, h6, e]
    · refine Gives.of ?_ d1
      have := rest μ1 d1.vat h0
      have e : run 2 5 (B__law_odd F) [.obj k, .int dep] μ = fin (exs (dropS 3 (B__law_odd F)) [.d (.obj k), .d (.int dep), .d (.lst oddL), .un, .un] μ1) := by
        simp [B__law_odd, go, szL, pow31, hd0, h0, e1, h6, oddL]
        simp [dropS]
      rw [e]
      exact this
theorem odd_spec : ∀ (m dep : Nat) (μ : List Mo), dep ≤ m → Vat μ k → Gives k μ (fun r => vN (dep + 2) 45 r = true) (R__law_odd m [.obj k, .int dep] μ)
  | 0, dep, μ, h, v => by
    have : dep = 0 := by omega
    subst this
    obtain ⟨d, hd, μ2, e, dn⟩ := some_spec (xs := oddL) v (by simp [oddL]) (by simp [oddL])
    refine ⟨d, μ2, ?_, dn, vN_mono 2 2 45 45 d (by omega) (Nat.le_refl _) (oddL_ok d hd)⟩
    simp only [oddL] at e
    simp [R__law_odd, B0__law_odd, go, szL, pow31, e]
  | m + 1, dep, μ, h, v => by
    show Gives k μ _ (run 2 5 (B__law_odd (R__law_odd m)) [.obj k, .int dep] μ)
    refine odd_base v fun μ1 v1 h0 => ?_
    obtain ⟨dep, rfl⟩ : ∃ j, dep = j + 1 := ⟨dep - 1, by omega⟩
    obtain ⟨q, μ2, e2, d2, q0, q1⟩ := under_spec (m := 4) v1 (by decide) (by decide)
    have hrk : rgOk 0 q = true := by unfold rgOk; simp; omega
    have lrk : (rgD 0 q).length = q.toNat := by unfold rgD; simp
    obtain ⟨ds, μ3, e3, d3, l3, q3⟩ := comp_draw (n := k) (tg := .name 4) (keep := ev (.con (.bl true))) (elt := ev (.call (R__law_odd m) (.cons (.var 0) (.cons (.op .sub (.var 1) (.con (.int (1)))) .nil)))) (δ := [.d (.obj k), .d (.int ((dep + 1 : Nat) : Int)), .d (.lst oddL), .un, .un]) (Q := fun d => vN (dep + 2) 45 d = true) (fun δ μ => by simp) (rgD 0 q) [] μ2 d2.vat (by rw [lrk, szL]; show 0 + _ ≤ _; omega) (fun x hx => ⟨_, rfl, fun μ v => by
      obtain ⟨d, μ', e, dn, q⟩ := odd_spec m dep μ (by omega) v
      have hsub : ((dep + 1 : Nat) : Int) - 1 = dep := by omega
      exact ⟨d, μ', by simp [hsub, e], dn, q⟩⟩)
    obtain ⟨p, μ4, e4, d4, p0, p1⟩ := under_spec (m := 3) d3.vat (by decide) (by decide)
    have hlen : ds.length ≤ 45 := by rw [l3, lrk]; omega
    rw [List.nil_append] at e3
    by_cases hp : p = 0
    · subst hp
      refine ⟨.lst ds, μ4, ?_, (d2.trans d3).trans d4, vN_mkl hlen q3⟩
      simp at e3
      simp [dropS, B__law_odd, e2, hrk, kcomp, wipeS, e3, e4]
    · refine ⟨.tup ds, μ4, ?_, (d2.trans d3).trans d4, vN_mk hlen q3⟩
      simp at e3
      simp [dropS, B__law_odd, e2, hrk, kcomp, wipeS, e3, e4, hp]
theorem oddF_spec {dep : Nat} (v : Vat μ k) (h : dep ≤ 4) : Gives k μ (fun r => vN (dep + 2) 45 r = true) (F_law_odd [.obj k, .int dep] μ) := odd_spec 4 dep μ h v
/-! ### bent values -/
/-- behind the first two of near -/
theorem near_mem {n s : Nat} {d : D} {a b : D} (hs : 45 ≤ s) (ha : vN 3 45 a = true) (hb : vN 3 45 b = true) (L : List D) (hL : ∀ x ∈ L, vN (n + 3) (s + 2) x = true) : ∀ x ∈ [a, b] ++ L, vN (n + 3) (s + 2) x = true := by
  intro x hx
  rcases List.mem_append.mp hx with hx | hx
  · simp at hx
    rcases hx with rfl | rfl
    · exact vN_mono 3 (n + 3) 45 (s + 2) _ (by omega) (by omega) ha
    · exact vN_mono 3 (n + 3) 45 (s + 2) _ (by omega) (by omega) hb
  · exact hL x hx
def nearS : Ss := match B0__law_bent with
  | .cons (.ite _ a _) _ => a
  | _ => .nil
theorem near_spec2 (v : Vat μ k) {n s : Nat} {d : D} (hd : vN n s d = true) (hs : 45 ≤ s) (hs2 : s ≤ 500) {a2 a3 a4 : Sl} : ∃ r δ' μ', exs nearS [.d (.obj k), .d d, a2, a3, a4] μ = some (.rt r, δ', μ') ∧ Dn k μ μ' ∧ vN (n + 3) (s + 2) r = true := by
  obtain ⟨a, μ1, e1, d1, qa⟩ := oddF_spec (dep := 1) v (by omega)
  obtain ⟨b, μ2, e2, d2, qb⟩ := oddF_spec (dep := 1) d1.vat (by omega)
  simp only [Int.cast_ofNat_Int] at e1 e2
  have pick : ∀ L : List D, L.length ≤ 100 → (∀ x ∈ L, vN (n + 3) (s + 2) x = true) → ∃ r μ3, F_law_some [.obj k, .lst ([a, b] ++ L)] μ2 = some (.ok r, μ3) ∧ Dn k μ2 μ3 ∧ vN (n + 3) (s + 2) r = true := by
    intro L hl hL
    obtain ⟨r, hr, μ3, e3, d3⟩ := some_spec (xs := [a, b] ++ L) d2.vat (by simp) (by simp; omega)
    exact ⟨r, μ3, e3, d3, near_mem (d := d) hs qa qb L hL r hr⟩
  -- values of which only the two odd ones are taken
  have plain : (Bi.do .isi μ2 [d, .ty "str"] = some (.bl false)) → (Bi.do .isi μ2 [d, .ty "int"] = some (.bl false)) → ∃ r δ' μ', exs nearS [.d (.obj k), .d d, a2, a3, a4] μ = some (.rt r, δ', μ') ∧ Dn k μ μ' ∧ vN (n + 3) (s + 2) r = true := by
    intro i1 i2
    obtain ⟨r, μ3, e3, d3, q⟩ := pick [] (by simp) (by simp)
    simp at e3
    refine ⟨r, [.d (.obj k), .d d, .d (.lst [a, b]), a3, a4], μ3, ?_, (d1.trans d2).trans d3, q⟩
    simp [nearS, B0__law_bent, szL, e1, e2, i1, i2, e3]
  have words : ∀ w : Str, w = "x" ∨ w = "hole" ∨ w = "less" ∨ w = "clear" ∨ w = "major" → vN (n + 3) (s + 2) (.str w) = true := by
    intro w hw
    have : vN 0 45 (.str w) = true := by rcases hw with rfl | rfl | rfl | rfl | rfl <;> decide +kernel
    exact vN_mono 0 (n + 3) 45 (s + 2) _ (by omega) (by omega) this
  cases d with
  | non => exact plain (by simp) (by simp)
  | tup xs => exact plain (by simp) (by simp)
  | lst xs => exact plain (by simp) (by simp)
  | ty _ => cases n <;> simp [vN] at hd
  | glo _ => cases n <;> simp [vN] at hd
  | obj _ => cases n <;> simp [vN] at hd
  | scr _ => cases n <;> simp [vN] at hd
  | str z =>
    have hz : z.cps.toList.all (fun c => decide (c < 128)) = true ∧ z.length ≤ s := by
      have : (z.cps.toList.all (fun c => decide (c < 128)) && decide (z.length ≤ s)) = true := by cases n <;> simpa [vN] using hd
      rw [Bool.and_eq_true] at this
      exact ⟨this.1, of_decide_eq_true this.2⟩
    have hcut : slD μ2 (.str z) none (some (-1)) = some (.str (L2.cutS z none (some (-1)))) := by
      show (if z.length ≤ sizeLine then some (D.str (L2.cutS z none (some (-1)))) else none) = _
      rw [if_pos (by rw [szL]; omega)]
    have hup : Bi.do .upper μ2 [.str z] = some (.str (Txt.upper z)) := by
      show (if z.length ≤ 5592405 then some (D.str (Txt.upper z)) else none) = _
      rw [if_pos (by omega)]
    have q1 : vN (n + 3) (s + 2) (.str (L2.cutS z none (some (-1)))) = true := by
      have hl := L2.cutS_length z none (some (-1))
      have ha : (L2.cutS z none (some (-1))).cps.toList.all (fun c => decide (c < 128)) = true := by
        refine List.all_eq_true.mpr fun c hc => ?_
        have hc : c ∈ z.cps.toList := List.mem_of_mem_drop (List.mem_of_mem_take hc)
        exact List.all_eq_true.mp hz.1 c hc
      simp only [vN, ha, Bool.true_and]
      exact decide_eq_true (by omega)
    have q2 : vN (n + 3) (s + 2) (.str (Txt.upper z)) = true := by
      have e := PyProof.Rows.upper_ascii (x := z) fun c hc => of_decide_eq_true (List.all_eq_true.mp hz.1 c hc)
      have hl : (Txt.upper z).length = z.length := by rw [e]; simp [Str.length]
      have ha : (Txt.upper z).cps.toList.all (fun c => decide (c < 128)) = true := by
        rw [e]
        simp only [Array.toList_map, List.all_map]
        refine List.all_eq_true.mpr fun c hc => ?_
        have this : c < 128 := of_decide_eq_true (List.all_eq_true.mp hz.1 c hc)
        show decide (PyProof.Rows.up1 c < 128) = true
        refine decide_eq_true ?_
        unfold PyProof.Rows.up1
        split
        · omega
        · exact this
      simp only [vN, ha, hl, Bool.true_and]
      exact decide_eq_true (by omega)
    obtain ⟨r, μ3, e3, d3, q⟩ := pick [.str "x", .str "hole", .str "less", .str "clear", .str "major", .str (L2.cutS z none (some (-1))), .str (Txt.upper z)] (by simp) (by
      intro x hx
      simp at hx
      rcases hx with rfl | rfl | rfl | rfl | rfl | rfl | rfl
      · exact words _ (by simp)
      · exact words _ (by simp)
      · exact words _ (by simp)
      · exact words _ (by simp)
      · exact words _ (by simp)
      · exact q1
      · exact q2)
    simp at e3
    refine ⟨r, [.d (.obj k), .d (.str z), .d (.lst ([a, b] ++ [.str "x", .str "hole", .str "less", .str "clear", .str "major", .str (L2.cutS z none (some (-1))), .str (Txt.upper z)])), a3, a4], μ3, ?_, (d1.trans d2).trans d3, q⟩
    simp [nearS, B0__law_bent, szL, e1, e2, hcut, hup, e3]
  | bl c =>
    have hints : ∀ i : Int, i.natAbs < 100 → vN (n + 3) (s + 2) (.int i) = true := by
      intro i hi
      have : vN 0 45 (.int i) = true := decide_eq_true (by have : (100 : Nat) ≤ 10 ^ 45 := by decide
                                                           omega)
      exact vN_mono 0 (n + 3) 45 (s + 2) _ (by omega) (by omega) this
    have e5 : Bi.do .str μ2 [.bl c] = some (.str (if c = true then "True" else "False")) := rfl
    have q5 : vN (n + 3) (s + 2) (.str (if c = true then "True" else "False")) = true := by
      have : vN 0 45 (.str (if c = true then "True" else "False")) = true := by cases c <;> decide +kernel
      exact vN_mono 0 (n + 3) 45 (s + 2) _ (by omega) (by omega) this
    obtain ⟨r, μ3, e3, d3, q⟩ := pick [.int ((if c = true then 1 else 0) + 1), .int ((if c = true then 1 else 0) - 1), .bl (!c), .str (if c = true then "True" else "False"), .int (10 * if c = true then 1 else 0)] (by simp) (by
      intro x hx
      simp at hx
      rcases hx with rfl | rfl | rfl | rfl | rfl
      · exact hints _ (by cases c <;> decide)
      · exact hints _ (by cases c <;> decide)
      · cases n <;> rfl
      · cases c <;> exact q5
      · exact hints _ (by cases c <;> decide))
    refine ⟨r, [.d (.obj k), .d (.bl c), .d (.lst ([a, b] ++ [.int ((if c = true then 1 else 0) + 1), .int ((if c = true then 1 else 0) - 1), .bl (!c), .str (if c = true then "True" else "False"), .int (10 * if c = true then 1 else 0)])), a3, a4], μ3, ?_, (d1.trans d2).trans d3, q⟩
    have p1 : addD μ2 (.bl c) (.int 1) = some (.int ((if c = true then 1 else 0) + 1)) := rfl
    have p2 : Op.do .sub μ2 (.bl c) (.int 1) = some (.int ((if c = true then 1 else 0) - 1)) := rfl
    have p3 : mulD (.int 10) (.bl c) = some (.int (10 * if c = true then 1 else 0)) := rfl
    cases c <;> simp at e3 p1 p2 p3 e5 <;> simp [nearS, B0__law_bent, szL, e1, e2, p1, p2, p3, e5, truD, e3]
  | int i =>
    have hi : i.natAbs < 10 ^ s := by cases n <;> simpa [vN] using hd
    have hp : (10 : Nat) ^ (s + 2) = 10 ^ s * 100 := by rw [Nat.pow_add]
    have h1 : 0 < 10 ^ s := Nat.pow_pos (by decide)
    have hlog : i.natAbs.log2 < 1920 := by
      by_cases h0 : i.natAbs = 0
      · rw [h0]; decide
      · refine (Nat.log2_lt h0).mpr ?_
        have a : (10 : Nat) ^ s ≤ 10 ^ 500 := Nat.pow_le_pow_right (by decide) hs2
        have b : (10 : Nat) ^ 500 < 2 ^ 1920 := by decide +kernel
        omega
    have e5 : Bi.do .str μ2 [.int i] = some (.str (toString i)) := by
      show (if i.natAbs.log2 < 1920 then some (D.str (toString i)) else none) = _
      rw [if_pos hlog]
    have intq : ∀ j : Int, j.natAbs < 10 ^ s * 100 → vN (n + 3) (s + 2) (.int j) = true := by
      intro j hj
      show decide (j.natAbs < 10 ^ (s + 2)) = true
      exact decide_eq_true (by omega)
    have q5 : vN (n + 3) (s + 2) (.str (toString i)) = true := by
      have hl := PySem.int_text_length_le10 (a := i) (k := s) (by omega) hi
      have hl2 : (Str.ofString (toString i)).length = (toString i).length := PySem.ofString_length _
      have ha : (Str.ofString (toString i)).cps.toList.all (fun c => decide (c < 128)) = true := by
        rw [PyProof.Rows.signs_ofString]
        refine List.all_eq_true.mpr fun c hc => ?_
        obtain ⟨d, hd, rfl⟩ := List.mem_map.mp hc
        exact decide_eq_true (PySem.int_ascii i d hd)
      show ((Str.ofString (toString i)).cps.toList.all (fun c => decide (c < 128)) && decide ((Str.ofString (toString i)).length ≤ s + 2)) = true
      rw [ha, Bool.true_and]
      exact decide_eq_true (by omega)
    obtain ⟨r, μ3, e3, d3, q⟩ := pick [.int (i + 1), .int (i - 1), .bl (i == 0), .str (toString i), .int (10 * i)] (by simp) (by
      intro x hx
      simp at hx
      rcases hx with rfl | rfl | rfl | rfl | rfl
      · exact intq _ (by omega)
      · exact intq _ (by omega)
      · cases n <;> rfl
      · exact q5
      · exact intq _ (by omega))
    have p3 : mulD (.int 10) (.int i) = some (.int (10 * i)) := mul_t (by decide)
    refine ⟨r, [.d (.obj k), .d (.int i), .d (.lst ([a, b] ++ [.int (i + 1), .int (i - 1), .bl (i == 0), .str (toString i), .int (10 * i)])), a3, a4], μ3, ?_, (d1.trans d2).trans d3, q⟩
    simp at e3
    simp [nearS, B0__law_bent, szL, e1, e2, p3, e5, truD, e3]
end
end Kv
set_option Elab.async false
set_option linter.all false
set_option maxRecDepth 100000
set_option maxHeartbeats 4000000
/-! Kvg: values bent at any depth. -/
namespace Kv
open PySem L2 Mi Pg Ev Dr Mm
section
variable {k : Nat} {μ : List Mo}
/-- the part ahead of the choice of a place -/
def restS : Ss → Ss
  | .cons _ r => r
  | .nil => .nil
def condE : E := .or_ (.not_ (.bi .isi (.cons (.var 1) (.cons (.con (.ty "tuple")) .nil)))) (.or_ (.op .eq (.var 1) (.tup .nil)) (.op .eq (.call F_law_under (.cons (.var 0) (.cons (.con (.int (7))) .nil))) (.con (.int (0)))))
theorem bent_head (v : Vat μ k) {r : Ss} {n s : Nat} {d : D} (hd : vN n s d = true) (hn : n ≤ 60) (hs : 45 ≤ s) (hs2 : s ≤ 500)
    (rest : ∀ xs μ1, d = .tup xs → xs ≠ [] → Vat μ1 k → Dr.Gives k μ1 (fun r => vN (n + 3) (s + 2) r = true) (Ev.fin (exs r [.d (.obj k), .d d, .un, .un, .un] μ1))) : Dr.Gives k μ (fun r => vN (n + 3) (s + 2) r = true) (Mi.run 2 5 (.cons (.ite condE nearS .nil) r) [.obj k, d] μ) := by
  have near : ∀ μ1, Dn k μ μ1 → Vat μ1 k → (Mi.run 2 5 (.cons (.ite condE nearS .nil) r) [.obj k, d] μ = Ev.fin (Ev.thenS (exs nearS [.d (.obj k), .d d, .un, .un, .un] μ1) (exs r))) → Dr.Gives k μ (fun r => vN (n + 3) (s + 2) r = true) (Mi.run 2 5 (.cons (.ite condE nearS .nil) r) [.obj k, d] μ) := by
    intro μ1 d1 v1 e
    obtain ⟨x, δ', μ2, e2, d2, q⟩ := near_spec2 v1 hd hs hs2 (a2 := .un) (a3 := .un) (a4 := .un)
    rw [e, e2]
    exact ⟨x, μ2, by simp, d1.trans d2, q⟩
  have notT : Bi.do .isi μ [d, .ty "tuple"] = some (.bl false) → Dr.Gives k μ (fun r => vN (n + 3) (s + 2) r = true) (Mi.run 2 5 (.cons (.ite condE nearS .nil) r) [.obj k, d] μ) := fun hi => near μ v.dn v (by simp [condE, go, hi])
  cases d with
  | non => exact notT (by simp)
  | bl _ => exact notT (by simp)
  | int _ => exact notT (by simp)
  | str _ => exact notT (by simp)
  | lst _ => exact notT (by simp)
  | ty _ => cases n <;> simp [vN] at hd
  | glo _ => cases n <;> simp [vN] at hd
  | obj _ => cases n <;> simp [vN] at hd
  | scr _ => cases n <;> simp [vN] at hd
  | tup xs =>
    have ho := vN_ok n s _ hd
    obtain ⟨m, rfl, ho2⟩ := ok_tup ho
    cases xs with
    | nil => exact near μ v.dn v (by simp [condE, go, szL, eq_tnil (μ := μ) (xs := []) rfl])
    | cons x xs =>
      have hne := tup_ne (μ := μ) (show m ≤ 63 by omega) ho2
      obtain ⟨q, μ1, e1, d1, q0, q1⟩ := under_spec (m := 7) v (by decide) (by decide)
      by_cases hq : q = 0
      · subst hq
        exact near μ1 d1 d1.vat (by simp [condE, go, szL, hne, e1])
      · refine Dr.Gives.of ?_ d1
        have e : Mi.run 2 5 (.cons (.ite condE nearS .nil) r) [.obj k, .tup (x :: xs)] μ = Ev.fin (exs r [.d (.obj k), .d (.tup (x :: xs)), .un, .un, .un] μ1) := by
          simp [condE, go, szL, hne, e1, hq]
        rw [e]
        exact rest (x :: xs) μ1 rfl (by simp) d1.vat
theorem bent_spec : ∀ (m n s : Nat) (d : D) (μ : List Mo), n ≤ m → n ≤ 60 → 45 ≤ s → s ≤ 500 → vN n s d = true → Vat μ k → Dr.Gives k μ (fun r => vN (n + 3) (s + 2) r = true) (R__law_bent m [.obj k, d] μ)
  | 0, n, s, d, μ, hm, hn, hs, hs2, hd, v => by
    refine bent_head v (r := restS B0__law_bent) hd hn hs hs2 fun xs μ1 e ne v1 => ?_
    subst e
    obtain ⟨j, rfl, _⟩ := vN_tup hd
    omega
  | m + 1, n, s, d, μ, hm, hn, hs, hs2, hd, v => by
    show Dr.Gives k μ _ (Mi.run 2 5 (B__law_bent (R__law_bent m)) [.obj k, d] μ)
    refine bent_head v (r := restS (B__law_bent (R__law_bent m))) hd hn hs hs2 fun xs μ1 e ne v1 => ?_
    subst e
    obtain ⟨j, rfl, hl, hx⟩ := vN_tup hd
    have hx' : ∀ x ∈ xs, vN (j + 3) (s + 2) x = true := fun x h => vN_mono j (j + 3) s (s + 2) x (by omega) (by omega) (hx x h)
    have hpos : 0 < xs.length := List.length_pos_iff.mpr ne
    obtain ⟨i, μ2, e2, d2, i0, i1⟩ := under_spec (m := (xs.length : Int)) v1 (by omega) (by omega)
    obtain ⟨i, rfl⟩ : ∃ q : Nat, i = q := ⟨i.toNat, by omega⟩
    obtain ⟨w, μ3, e3, d3, w0, w1⟩ := under_spec (m := 9) d2.vat (by decide) (by decide)
    have hi : i < xs.length := by omega
    have c0 := cut_take xs i
    have c1 := cut_drop xs (i + 1)
    have c2 := cut_take xs (i + 1)
    have c3 := cut_drop xs i
    simp only [Int.natCast_add, Int.cast_ofNat_Int] at c1 c2
    have mk : ∀ ys : List D, ys.length ≤ s + 2 → (∀ y ∈ ys, vN (j + 3) (s + 2) y = true) → vN (j + 1 + 3) (s + 2) (.tup ys) = true := fun ys a b => vN_mk a b
    have ht : ∀ q, ∀ x ∈ xs.take q, vN (j + 3) (s + 2) x = true := fun q x h => hx' x (List.mem_of_mem_take h)
    have hdr : ∀ q, ∀ x ∈ xs.drop q, vN (j + 3) (s + 2) x = true := fun q x h => hx' x (List.mem_of_mem_drop h)
    by_cases h0 : w = 0
    · subst h0
      refine ⟨.tup (xs.take i ++ xs.drop (i + 1)), μ3, ?_, d2.trans d3, mk _ (by simp; omega) fun y hy => ?_⟩
      · have z1 : (xs.take i).length + (xs.drop (i + 1)).length ≤ 16777216 := by simp; omega
        simp only [List.length_take, List.length_drop] at z1
        simp [restS, B__law_bent, e2, e3, szL, c0, c1, z1]
      · rcases List.mem_append.mp hy with hy | hy
        · exact ht _ y hy
        · exact hdr _ y hy
    · by_cases h1 : w = 1
      · subst h1
        refine ⟨.tup (xs.take (i + 1) ++ xs.drop i), μ3, ?_, d2.trans d3, mk _ (by simp; omega) fun y hy => ?_⟩
        · have z1 : (xs.take (i + 1)).length + (xs.drop i).length ≤ 16777216 := by simp; omega
          simp only [List.length_take, List.length_drop] at z1
          simp [restS, B__law_bent, e2, e3, szL, c2, c3, z1]
        · rcases List.mem_append.mp hy with hy | hy
          · exact ht _ y hy
          · exact hdr _ y hy
      · by_cases h2 : w = 2
        · subst h2
          have hrev : revD μ3 (.tup xs) = some (.tup xs.reverse) := rfl
          refine ⟨.tup xs.reverse, μ3, ?_, d2.trans d3, mk _ (by simp; omega) fun y hy => hx' y (List.mem_reverse.mp hy)⟩
          simp [restS, B__law_bent, e2, e3, szL, hrev]
        · by_cases h3 : w = 3
          · subst h3
            refine ⟨.lst xs, μ3, ?_, d2.trans d3, vN_mkl (by omega) hx'⟩
            simp [restS, B__law_bent, e2, e3, szL]
          · have hai : L2.atI xs (i : Int) = some xs[i] := by
              have := atI_map (fun x : D => x) (xs[i]) hi
              simpa [hi] using this
            obtain ⟨r, μ4, e4, d4, q4⟩ := bent_spec m j s xs[i] μ3 (by omega) (by omega) hs hs2 (hx _ (List.getElem_mem hi)) d3.vat
            refine ⟨.tup (xs.take i ++ [r] ++ xs.drop (i + 1)), μ4, ?_, (d2.trans d3).trans d4, mk _ (by simp; omega) fun y hy => ?_⟩
            · have z1 : (xs.take i).length + 1 ≤ 16777216 := by simp; omega
              have z2 : (xs.take i).length + 1 + (xs.drop (i + 1)).length ≤ 16777216 := by simp; omega
              have z3 : (xs.take i).length + ((xs.drop (i + 1)).length + 1) ≤ 16777216 := by simp; omega
              simp only [List.length_take, List.length_drop] at z1 z2 z3
              simp [restS, B__law_bent, e2, e3, szL, h0, h1, h2, h3, hai, e4, c0, c1, z1, z2, z3]
            · rcases List.mem_append.mp hy with hy | hy
              · rcases List.mem_append.mp hy with hy | hy
                · exact ht _ y hy
                · simp at hy; subst hy; exact q4
              · exact hdr _ y hy
end
end Kv
set_option Elab.async false
set_option linter.all false
set_option maxRecDepth 100000
set_option maxHeartbeats 0
/-! What is read off the defs of the text, made by wip/genlaw.py; each reading is computed anew here. -/
namespace K01
open PySem PySem.Spec PyProof.Rows L2 Mi Pg
abbrev PW : Program := PySem.Challenge.pw_allcards_k01_boards_decks_and_patterns_r
def top (i : Nat) : Stmt := PW.main.body.getD i (.Pass ⟨0, 0, 0, 0⟩)
def csL : List Str := [("InvalidBoard" : Str), ("InvalidRow" : Str), ("InvalidDeck" : Str), ("InvalidCard" : Str), ("InvalidPattern" : Str), ("InvalidForm" : Str), ("InvalidIndex" : Str), ("InvalidFactors" : Str), ("InvalidSeen" : Str), ("InvalidLevel" : Str), ("NoCard" : Str), ("NothingToUndo" : Str), ("TooMany" : Str), ("InvalidText" : Str), ("ValueError" : Str)]
def labL : Str := "board row deck card pattern form index factors seen level none undo many text value"
def lbl : List (Str × List Bool) := [("InvalidDeck", [false, false, true, false, false, false, false, false, false, false, false, false, false, false, true]), ("InvalidPattern", [false, false, false, false, true, false, false, false, false, false, false, false, false, false, true])]
def NMS : List (Str × Str) := [("InvalidDeck", "deck value"), ("InvalidPattern", "pattern value")]
def cons : List (Str × D) := [("MOST_CARDS", (.int (40))), ("MOST_WIRES", (.int (8))), ("GREAT", (.int (1000000000000000000000000000000))), ("TIMES", (.tup [(.str "card"), (.str "hole"), (.str "plain"), (.str "minor"), (.str "major")])), ("LEVELS", (.tup [(.str "none"), (.str "minor"), (.str "major")]))]
def excs : List Str := ["InvalidDeck", "InvalidPattern"]
def cf0 : Cf := { fns := [], cons := cons, excs := excs, err := some ("_law_error", NMS), tru := [(272, 49)] }
theorem rd_is_whole : cSsF (cf0.at [] [] [] false) (cS (cf0.at [] [] [] false) N_is_whole 40 (defScope (top 22))) (defBody (top 22)) = some B_is_whole := by kernel_rfl
theorem sc_is_whole : scB N_is_whole ["value", "low", "high"] (defScope (top 22)) = true := by kernel_rfl
theorem rd_is_word : cSsF (cf0.at [] [] [] false) (cS (cf0.at [] [] [] false) N_is_word 40 (defScope (top 23))) (defBody (top 23)) = some B_is_word := by kernel_rfl
theorem sc_is_word : scB N_is_word ["value", "words"] (defScope (top 23)) = true := by kernel_rfl
theorem rd_break_between : cSsF (cf0.at [] [] [] false) (cS (cf0.at [] [] [] false) N_break_between 40 (defScope (top 35))) (defBody (top 35)) = some B_break_between := by kernel_rfl
theorem sc_break_between : scB N_break_between ["one", "other"] (defScope (top 35)) = true := by kernel_rfl
theorem rd__law_vat : cSsF (cf0.at [] [(125, 11)] [] false) (cS (cf0.at [] [(125, 11)] [] false) N__law_vat 40 (defScope (top 38))) (defBody (top 38)) = some B__law_vat := by kernel_rfl
theorem sc__law_vat : scB N__law_vat ["script", "k"] (defScope (top 38)) = true := by kernel_rfl
theorem rd__law_under : cSsF (cf0.at [] [] [] false) (cS (cf0.at [] [] [] false) N__law_under 40 (defScope (top 39))) (defBody (top 39)) = some B__law_under := by kernel_rfl
theorem sc__law_under : scB N__law_under ["vat", "many"] (defScope (top 39)) = true := by kernel_rfl
theorem rd__law_is_whole : cSsF (cf0.at [] [] [] false) (cS (cf0.at [] [] [] false) N__law_is_whole 40 (defScope (top 41))) (defBody (top 41)) = some B__law_is_whole := by kernel_rfl
theorem sc__law_is_whole : scB N__law_is_whole ["value", "low", "high"] (defScope (top 41)) = true := by kernel_rfl
theorem rd__law_truly : cSsF (cf0.at [] [] [] false) (cS (cf0.at [] [] [] false) N__law_truly 40 (defScope (top 42))) (defBody (top 42)) = some B__law_truly := by kernel_rfl
theorem sc__law_truly : scB N__law_truly ["found", "due"] (defScope (top 42)) = true := by kernel_rfl
theorem rd__law_is_one_of : cSsF (cf0.at [] [] [] false) (cS (cf0.at [] [] [] false) N__law_is_one_of 40 (defScope (top 43))) (defBody (top 43)) = some B__law_is_one_of := by kernel_rfl
theorem sc__law_is_one_of : scB N__law_is_one_of ["value", "some"] (defScope (top 43)) = true := by kernel_rfl
def cf1 : Cf := { cf0 with fns := ("_law_is_one_of", 2, F_law_is_one_of) :: ("_law_truly", 2, F_law_truly) :: ("_law_is_whole", 3, F_law_is_whole) :: ("_law_under", 2, F_law_under) :: ("_law_vat", 2, F_law_vat) :: ("break_between", 2, Fbreak_between) :: ("is_word", 2, Fis_word) :: ("is_whole", 3, Fis_whole) :: cf0.fns }
theorem rd_is_card : cSsF (cf1.at [] [] [] false) (cS (cf1.at [] [] [] false) N_is_card 40 (defScope (top 24))) (defBody (top 24)) = some B_is_card := by kernel_rfl
theorem sc_is_card : scB N_is_card ["value"] (defScope (top 24)) = true := by kernel_rfl
theorem rd_is_source : cSsF (cf1.at [] [] [] false) (cS (cf1.at [] [] [] false) N_is_source 40 (defScope (top 26))) (defBody (top 26)) = some B_is_source := by kernel_rfl
theorem sc_is_source : scB N_is_source ["board", "when", "value"] (defScope (top 26)) = true := by kernel_rfl
theorem rd_is_moment : cSsF (cf1.at [] [] [] false) (cS (cf1.at [] [] [] false) N_is_moment 40 (defScope (top 32))) (defBody (top 32)) = some B_is_moment := by kernel_rfl
theorem sc_is_moment : scB N_is_moment ["value"] (defScope (top 32)) = true := by kernel_rfl
theorem rd__law_some : cSsF (cf1.at [] [] [] false) (cS (cf1.at [] [] [] false) N__law_some 40 (defScope (top 40))) (defBody (top 40)) = some B__law_some := by kernel_rfl
theorem sc__law_some : scB N__law_some ["vat", "things"] (defScope (top 40)) = true := by kernel_rfl
theorem rd__law_is_card : cSsF (cf1.at [] [] [] false) (cS (cf1.at [] [] [] false) N__law_is_card 40 (defScope (top 44))) (defBody (top 44)) = some B__law_is_card := by kernel_rfl
theorem sc__law_is_card : scB N__law_is_card ["value"] (defScope (top 44)) = true := by kernel_rfl
theorem rd__law_is_from : cSsF (cf1.at [] [] [] false) (cS (cf1.at [] [] [] false) N__law_is_from 40 (defScope (top 46))) (defBody (top 46)) = some B__law_is_from := by kernel_rfl
theorem sc__law_is_from : scB N__law_is_from ["frame", "when", "value"] (defScope (top 46)) = true := by kernel_rfl
theorem rd__law_is_plan : cSsF (cf1.at [] [] [] false) (cS (cf1.at [] [] [] false) N__law_is_plan 40 (defScope (top 51))) (defBody (top 51)) = some B__law_is_plan := by kernel_rfl
theorem sc__law_is_plan : scB N__law_is_plan ["value"] (defScope (top 51)) = true := by kernel_rfl
def cf2 : Cf := { cf1 with fns := ("_law_is_plan", 1, F_law_is_plan) :: ("_law_is_from", 3, F_law_is_from) :: ("_law_is_card", 1, F_law_is_card) :: ("_law_some", 2, F_law_some) :: ("is_moment", 1, Fis_moment) :: ("is_source", 3, Fis_source) :: ("is_card", 1, Fis_card) :: cf1.fns }
theorem rd_is_deck : cSsF (cf2.at [] [] [] false) (cS (cf2.at [] [] [] false) N_is_deck 40 (defScope (top 25))) (defBody (top 25)) = some B_is_deck := by kernel_rfl
theorem sc_is_deck : scB N_is_deck ["value"] (defScope (top 25)) = true := by kernel_rfl
theorem rd_is_printing : cSsF (cf2.at [] [] [] false) (cS (cf2.at [] [] [] false) N_is_printing 40 (defScope (top 27))) (defBody (top 27)) = some B_is_printing := by kernel_rfl
theorem sc_is_printing : scB N_is_printing ["board", "when", "value"] (defScope (top 27)) = true := by kernel_rfl
theorem rd_is_pattern : cSsF (cf2.at [] [] [] false) (cS (cf2.at [] [] [] false) N_is_pattern 40 (defScope (top 33))) (defBody (top 33)) = some B_is_pattern := by kernel_rfl
theorem sc_is_pattern : scB N_is_pattern ["value"] (defScope (top 33)) = true := by kernel_rfl
theorem rd__law_is_pack : cSsF (cf2.at [] [] [] false) (cS (cf2.at [] [] [] false) N__law_is_pack 40 (defScope (top 45))) (defBody (top 45)) = some B__law_is_pack := by kernel_rfl
theorem sc__law_is_pack : scB N__law_is_pack ["value"] (defScope (top 45)) = true := by kernel_rfl
theorem rd__law_is_act : cSsF (cf2.at [] [] [] false) (cS (cf2.at [] [] [] false) N__law_is_act 40 (defScope (top 47))) (defBody (top 47)) = some B__law_is_act := by kernel_rfl
theorem sc__law_is_act : scB N__law_is_act ["frame", "when", "value"] (defScope (top 47)) = true := by kernel_rfl
theorem rd__law_pack : cSsF (cf2.at [] [] [] false) (cS (cf2.at [] [] [] false) N__law_pack 40 (defScope (top 52))) (defBody (top 52)) = some B__law_pack := by kernel_rfl
theorem sc__law_pack : scB N__law_pack ["vat", "most"] (defScope (top 52)) = true := by kernel_rfl
theorem rd__law_act : cSsF (cf2.at [] [] [] false) (cS (cf2.at [] [] [] false) N__law_act 40 (defScope (top 53))) (defBody (top 53)) = some B__law_act := by kernel_rfl
theorem sc__law_act : scB N__law_act ["vat", "frame", "when"] (defScope (top 53)) = true := by kernel_rfl
theorem rd0__law_odd : cSsF (cf2.at [] [] [] false) (cS (cf2.at [] [] [] false) N__law_odd 40 (defScope (top 58))) (defBody (top 58)) = some B0__law_odd := by kernel_rfl
theorem rd__law_odd (F : Sem) : cSsF (({ cf2 with fns := ("_law_odd", 2, F) :: cf2.fns } : Cf).at [] [] [] false) (cS (({ cf2 with fns := ("_law_odd", 2, F) :: cf2.fns } : Cf).at [] [] [] false) N__law_odd 40 (defScope (top 58))) (defBody (top 58)) = some (B__law_odd F) := by kernel_rfl
theorem sc__law_odd : scB N__law_odd ["vat", "depth"] (defScope (top 58)) = true := by kernel_rfl
def cf3 : Cf := { cf2 with fns := ("_law_odd", 2, F_law_odd) :: ("_law_act", 3, F_law_act) :: ("_law_pack", 2, F_law_pack) :: ("_law_is_act", 3, F_law_is_act) :: ("_law_is_pack", 1, F_law_is_pack) :: ("is_pattern", 1, Fis_pattern) :: ("is_printing", 3, Fis_printing) :: ("is_deck", 1, Fis_deck) :: cf2.fns }
theorem rd_is_action : cSsF (cf3.at [] [] [] false) (cS (cf3.at [] [] [] false) N_is_action 40 (defScope (top 28))) (defBody (top 28)) = some B_is_action := by kernel_rfl
theorem sc_is_action : scB N_is_action ["board", "when", "value"] (defScope (top 28)) = true := by kernel_rfl
theorem rd_need_deck : cSsF (cf3.at [] [] [] false) (cS (cf3.at [] [] [] false) N_need_deck 40 (defScope (top 34))) (defBody (top 34)) = some B_need_deck := by kernel_rfl
theorem sc_need_deck : scB N_need_deck ["deck"] (defScope (top 34)) = true := by kernel_rfl
theorem rd__law_is_wire : cSsF (cf3.at [] [] [] false) (cS (cf3.at [] [] [] false) N__law_is_wire 40 (defScope (top 48))) (defBody (top 48)) = some B__law_is_wire := by kernel_rfl
theorem sc__law_is_wire : scB N__law_is_wire ["frame", "value"] (defScope (top 48)) = true := by kernel_rfl
theorem rd__law_wire : cSsF (cf3.at [] [] [] false) (cS (cf3.at [] [] [] false) N__law_wire 40 (defScope (top 54))) (defBody (top 54)) = some B__law_wire := by kernel_rfl
theorem sc__law_wire : scB N__law_wire ["vat", "frame"] (defScope (top 54)) = true := by kernel_rfl
theorem rd0__law_bent : cSsF (cf3.at [] [] [] false) (cS (cf3.at [] [] [] false) N__law_bent 40 (defScope (top 59))) (defBody (top 59)) = some B0__law_bent := by kernel_rfl
theorem rd__law_bent (F : Sem) : cSsF (({ cf3 with fns := ("_law_bent", 2, F) :: cf3.fns } : Cf).at [] [] [] false) (cS (({ cf3 with fns := ("_law_bent", 2, F) :: cf3.fns } : Cf).at [] [] [] false) N__law_bent 40 (defScope (top 59))) (defBody (top 59)) = some (B__law_bent F) := by kernel_rfl
theorem sc__law_bent : scB N__law_bent ["vat", "value"] (defScope (top 59)) = true := by kernel_rfl
def cf4 : Cf := { cf3 with fns := ("_law_bent", 2, F_law_bent) :: ("_law_wire", 2, F_law_wire) :: ("_law_is_wire", 2, F_law_is_wire) :: ("need_deck", 1, Fneed_deck) :: ("is_action", 3, Fis_action) :: cf3.fns }
theorem rd_is_wire : cSsF (cf4.at [] [] [] false) (cS (cf4.at [] [] [] false) N_is_wire 40 (defScope (top 29))) (defBody (top 29)) = some B_is_wire := by kernel_rfl
theorem sc_is_wire : scB N_is_wire ["board", "value"] (defScope (top 29)) = true := by kernel_rfl
theorem rd_pattern_of : cSsF (cf4.at [] [] [] false) (cS (cf4.at [] [] [] false) N_pattern_of 40 (defScope (top 36))) (defBody (top 36)) = some B_pattern_of := by kernel_rfl
theorem sc_pattern_of : scB N_pattern_of ["deck"] (defScope (top 36)) = true := by kernel_rfl
theorem rd__law_is_board : cSsF (cf4.at [] [] [] false) (cS (cf4.at [] [] [] false) N__law_is_board 40 (defScope (top 49))) (defBody (top 49)) = some B__law_is_board := by kernel_rfl
theorem sc__law_is_board : scB N__law_is_board ["value"] (defScope (top 49)) = true := by kernel_rfl
theorem rd__law_board : cSsF (cf4.at [] [] [] false) (cS (cf4.at [] [] [] false) N__law_board 40 (defScope (top 55))) (defBody (top 55)) = some B__law_board := by kernel_rfl
theorem sc__law_board : scB N__law_board ["vat", "most"] (defScope (top 55)) = true := by kernel_rfl
def cf5 : Cf := { cf4 with fns := ("_law_board", 2, F_law_board) :: ("_law_is_board", 1, F_law_is_board) :: ("pattern_of", 1, Fpattern_of) :: ("is_wire", 2, Fis_wire) :: cf4.fns }
theorem rd_is_board : cSsF (cf5.at [] [] [] false) (cS (cf5.at [] [] [] false) N_is_board 40 (defScope (top 30))) (defBody (top 30)) = some B_is_board := by kernel_rfl
theorem sc_is_board : scB N_is_board ["value"] (defScope (top 30)) = true := by kernel_rfl
theorem rd__law_is_chain : cSsF (cf5.at [] [] [] false) (cS (cf5.at [] [] [] false) N__law_is_chain 40 (defScope (top 50))) (defBody (top 50)) = some B__law_is_chain := by kernel_rfl
theorem sc__law_is_chain : scB N__law_is_chain ["value"] (defScope (top 50)) = true := by kernel_rfl
def cf6 : Cf := { cf5 with fns := ("_law_is_chain", 1, F_law_is_chain) :: ("is_board", 1, Fis_board) :: cf5.fns }
theorem rd_is_row : cSsF (cf6.at [] [] [] false) (cS (cf6.at [] [] [] false) N_is_row 40 (defScope (top 31))) (defBody (top 31)) = some B_is_row := by kernel_rfl
theorem sc_is_row : scB N_is_row ["value"] (defScope (top 31)) = true := by kernel_rfl
def cf7 : Cf := { cf6 with fns := ("is_row", 1, Fis_row) :: cf6.fns }
def N__law_judged : List Str := ["value", "found", "one", "other", "word"]
def B__law_judged : Ss := (.cons (.ite (.or_ (.not_ (.call F_law_truly (.cons (.call Fis_board (.cons (.var 0) .nil)) (.cons (.call F_law_is_board (.cons (.var 0) .nil)) .nil)))) (.not_ (.call F_law_truly (.cons (.call Fis_row (.cons (.var 0) .nil)) (.cons (.call F_law_is_chain (.cons (.var 0) .nil)) .nil))))) (.cons (.ret (.con (.bl false))) .nil) .nil) (.cons (.ite (.or_ (.not_ (.call F_law_truly (.cons (.call Fis_deck (.cons (.var 0) .nil)) (.cons (.call F_law_is_pack (.cons (.var 0) .nil)) .nil)))) (.not_ (.call F_law_truly (.cons (.call Fis_pattern (.cons (.var 0) .nil)) (.cons (.call F_law_is_plan (.cons (.var 0) .nil)) .nil))))) (.cons (.ret (.con (.bl false))) .nil) .nil) (.cons (.ite (.not_ (.call F_law_is_pack (.cons (.var 0) .nil))) (.cons (.ret (.op .eq (.err NMS (.call Fpattern_of (.cons (.var 0) .nil))) (.con (.str "deck value")))) .nil) .nil) (.cons (.ite (.not_ (.chain (.cm .lt) (.cm .lt) (.con (.int (0))) (.bi .len (.cons (.var 0) .nil)) (.con (.int (13))))) (.cons (.ret (.op .eq (.err NMS (.call Fpattern_of (.cons (.var 0) .nil))) (.con (.str "pattern value")))) .nil) .nil) (.cons (.lin 1 (.cons (.tup (.cons (.con (.str "major")) (.cons (.idx (.idx (.var 0) (.con (.int (0)))) (.con (.int (2)))) .nil))) .nil)) (.cons (.for_ (.pair (.name 2) (.name 3)) (.zip (.var 0) (.slc (.var 0) (.yes (.con (.int (1)))) .no)) (.cons (.set (.name 4) (.ite (.op .eq (.slc (.var 2) .no (.yes (.con (.int (2))))) (.slc (.var 3) .no (.yes (.con (.int (2)))))) (.con (.str "none")) (.ite (.op .eq (.idx (.var 2) (.con (.int (0)))) (.idx (.var 3) (.con (.int (0))))) (.con (.str "minor")) (.con (.str "major"))))) (.cons (.app 1 (.tup (.cons (.var 4) (.cons (.idx (.var 3) (.con (.int (2)))) .nil)))) .nil))) (.cons (.still 1) (.cons (.ret (.op .eq (.call Fpattern_of (.cons (.var 0) .nil)) (.bi .tuple (.cons (.var 1) .nil)))) .nil))))))))
def F_law_judged : Sem := run 1 5 B__law_judged
theorem rd__law_judged : cSsF (cf7.at [1] [] [(297, [1])] true) (cS (cf7.at [1] [] [(297, [1])] true) N__law_judged 40 (defScope (top 60))) (defBody (top 60)) = some B__law_judged := by kernel_rfl
theorem sc__law_judged : scB N__law_judged ["value"] (defScope (top 60)) = true := by kernel_rfl
def cf8 : Cf := { cf7 with fns := ("_law_judged", 1, F_law_judged) :: cf7.fns }
def N_law : List Str := ["script", "k", "vat", "board", "pack", "plan", "value", "spoilt", "change", "wire", "card", "some", "turn"]
def B_law : Ss := (.cons (.for_ (.name 1) (.rng (.bi .max (.cons (.con (.int (4))) (.cons (.bi .min (.cons (.con (.int (9))) (.cons (.bi .len (.cons (.var 0) .nil)) .nil))) .nil)))) (.cons (.set (.name 2) (.call F_law_vat (.cons (.var 0) (.cons (.var 1) .nil)))) (.cons (.set (.pair (.name 3) (.name 4)) (.tup (.cons (.call F_law_board (.cons (.var 2) (.cons (.con (.int (8))) .nil))) (.cons (.call F_law_pack (.cons (.var 2) (.cons (.con (.int (14))) .nil))) .nil)))) (.cons (.set (.name 5) (.bi .tuple (.cons (.comp (.tup (.cons (.call F_law_some (.cons (.var 2) (.cons (.lst (.cons (.con (.str "none")) (.cons (.con (.str "minor")) (.cons (.con (.str "major")) .nil)))) .nil))) (.cons (.con (.bl true)) .nil))) (.name 12) (.rng (.call F_law_under (.cons (.var 2) (.cons (.con (.int (14))) .nil)))) (.con (.bl true)) [12]) .nil))) (.cons (.for_ (.name 6) (.seq (.lst (.cons (.var 3) (.cons (.tup (.cons (.var 3) .nil)) (.cons (.tup (.cons (.var 3) (.cons (.call F_law_board (.cons (.var 2) (.cons (.con (.int (4))) .nil))) .nil))) (.cons (.var 4) (.cons (.var 5) (.cons (.op .add (.tup (.cons (.tup (.cons (.con (.str "major")) (.cons (.con (.bl false)) .nil))) .nil)) (.var 5)) .nil)))))))) (.cons (.set (.name 7) (.var 6)) (.cons (.ite (.not_ (.call F_law_judged (.cons (.var 6) .nil))) (.cons (.ret (.con (.bl false))) .nil) .nil) (.cons (.for_ (.name 8) (.rng (.con (.int (8)))) (.cons (.set (.name 7) (.call F_law_bent (.cons (.var 2) (.cons (.ite (.op .eq (.op .mod (.var 8) (.con (.int (3)))) (.con (.int (0)))) (.var 6) (.var 7)) .nil)))) (.cons (.ite (.not_ (.call F_law_judged (.cons (.var 7) .nil))) (.cons (.ret (.con (.bl false))) .nil) .nil) .nil))) .nil)))) (.cons (.ite (.not_ (.call F_law_judged (.cons (.call F_law_odd (.cons (.var 2) (.cons (.con (.int (2))) .nil))) .nil))) (.cons (.ret (.con (.bl false))) .nil) .nil) .nil)))))) (.cons (.set (.pair (.name 9) (.name 10)) (.tup (.cons (.tup (.cons (.con (.str "card")) (.cons (.con .non) (.cons (.tup (.cons (.con (.str "print")) (.cons (.tup (.cons (.con (.str "x")) (.cons (.con (.str "y")) (.cons (.con (.str "x")) .nil)))) .nil))) .nil)))) (.cons (.tup (.cons (.con (.int (0))) (.cons (.con (.int (0))) (.cons (.con (.bl true)) (.cons (.con (.int (1))) (.cons (.con (.int (2))) .nil)))))) .nil)))) (.cons (.set (.name 11) (.lst (.cons (.tup (.cons (.con (.int (0))) (.cons (.con (.int (0))) (.cons (.op .mul (.tup (.cons (.var 9) .nil)) (.con (.int (8)))) .nil)))) (.cons (.tup (.cons (.con (.int (0))) (.cons (.con (.int (0))) (.cons (.op .mul (.tup (.cons (.var 9) .nil)) (.con (.int (9)))) .nil)))) (.cons (.tup (.cons (.con (.int (3))) (.cons (.con (.int (2))) (.cons (.tup .nil) .nil)))) (.cons (.tup (.cons (.con (.int (4))) (.cons (.con (.int (0))) (.cons (.tup .nil) .nil)))) (.cons (.tup (.cons (.con (.int (0))) (.cons (.con (.int (3))) (.cons (.tup .nil) .nil)))) (.cons (.op .mul (.tup (.cons (.tup (.cons (.con (.int (0))) (.cons (.con (.int (0))) (.cons (.op .mul (.tup (.cons (.var 9) .nil)) (.con (.int (4)))) .nil)))) .nil)) (.con (.int (2)))) .nil)))))))) (.cons (.set (.name 11) (.op .add (.var 11) (.lst (.cons (.tup (.cons (.tup (.cons (.con (.int (0))) (.cons (.con (.int (0))) (.cons (.op .mul (.tup (.cons (.var 9) .nil)) (.con (.int (4)))) .nil)))) (.cons (.tup (.cons (.con (.int (0))) (.cons (.con (.int (0))) (.cons (.op .mul (.tup (.cons (.var 9) .nil)) (.con (.int (5)))) .nil)))) .nil))) (.cons (.op .mul (.tup (.cons (.tup (.cons (.con (.int (0))) (.cons (.con (.int (0))) (.cons (.tup .nil) .nil)))) .nil)) (.con (.int (3)))) (.cons (.op .mul (.tup (.cons (.var 10) .nil)) (.con (.int (40)))) (.cons (.op .mul (.tup (.cons (.var 10) .nil)) (.con (.int (41)))) .nil))))))) (.cons (.set (.name 11) (.op .add (.var 11) (.lst (.cons (.tup (.cons (.tup (.cons (.con (.int (1))) (.cons (.con (.int (1))) (.cons (.con (.bl true)) (.cons (.con (.int (0))) (.cons (.con (.int (0))) .nil)))))) (.cons (.tup (.cons (.con (.int (1))) (.cons (.con (.int (0))) (.cons (.con (.bl true)) (.cons (.con (.int (0))) (.cons (.con (.int (0))) .nil)))))) .nil))) (.cons (.tup (.cons (.tup (.cons (.con (.int (1))) (.cons (.con (.int (1))) (.cons (.con (.bl true)) (.cons (.con (.int (0))) (.cons (.con (.int (0))) .nil)))))) (.cons (.tup (.cons (.con (.int (2))) (.cons (.con (.int (0))) (.cons (.con (.bl true)) (.cons (.con (.int (0))) (.cons (.con (.int (0))) .nil)))))) .nil))) .nil))))) (.cons (.set (.name 11) (.op .add (.var 11) (.lst (.cons (.tup (.cons (.tup (.cons (.op .pow (.con (.int (10))) (.con (.int (9)))) (.cons (.con (.int (0))) (.cons (.con (.bl true)) (.cons (.op .pow (.con (.int (10))) (.con (.int (30)))) (.cons (.neg (.op .pow (.con (.int (10))) (.con (.int (30))))) .nil)))))) .nil)) (.cons (.tup (.cons (.tup (.cons (.con (.int (0))) (.cons (.op .add (.op .pow (.con (.int (10))) (.con (.int (9)))) (.con (.int (1)))) (.cons (.con (.bl true)) (.cons (.con (.int (0))) (.cons (.con (.int (0))) .nil)))))) .nil)) .nil))))) (.cons (.set (.name 11) (.op .add (.var 11) (.lst (.cons (.tup (.cons (.tup (.cons (.con (.int (0))) (.cons (.con (.int (0))) (.cons (.con (.bl true)) (.cons (.op .add (.op .pow (.con (.int (10))) (.con (.int (30)))) (.con (.int (1)))) (.cons (.con (.int (0))) .nil)))))) .nil)) (.cons (.tup (.cons (.con (.int (1))) (.cons (.con (.int (0))) (.cons (.tup (.cons (.tup (.cons (.con (.str "minor")) (.cons (.con .non) (.cons (.tup (.cons (.con (.str "print")) (.cons (.tup (.cons (.con (.str "x")) .nil)) .nil))) .nil)))) .nil)) .nil)))) (.cons (.tup (.cons (.tup (.cons (.con (.str "none")) (.cons (.con (.bl true)) .nil))) .nil)) .nil)))))) (.cons (.set (.name 11) (.op .add (.var 11) (.lst (.cons (.tup (.cons (.con (.int (1))) (.cons (.con (.int (1))) (.cons (.tup (.cons (.tup (.cons (.con (.str "card")) (.cons (.tup (.cons (.con (.int (1))) (.cons (.con (.bl true)) .nil))) (.cons (.tup (.cons (.con (.str "clear")) (.cons (.con (.int (0))) .nil))) .nil)))) .nil)) .nil)))) (.cons (.tup (.cons (.con (.int (1))) (.cons (.con (.int (0))) (.cons (.tup (.cons (.tup (.cons (.con (.str "card")) (.cons (.con .non) (.cons (.tup (.cons (.con (.str "print")) (.cons (.tup .nil) .nil))) .nil)))) .nil)) .nil)))) (.cons (.tup .nil) .nil)))))) (.cons (.ret (.op .eq (.comp (.var 6) (.name 6) (.seq (.var 11)) (.not_ (.call F_law_judged (.cons (.var 6) .nil))) [6]) (.lst .nil))) .nil)))))))))
def Flaw : Sem := run 1 13 B_law
theorem rd_law : cSsF (cf8.at [] [] [] false) (cS (cf8.at [] [] [] false) N_law 40 (defScope (top 61))) (defBody (top 61)) = some B_law := by kernel_rfl
theorem sc_law : scB N_law ["script"] (defScope (top 61)) = true := by kernel_rfl
def gloL : List Str := [("CardError" : Str), ("InvalidBoard" : Str), ("InvalidRow" : Str), ("InvalidDeck" : Str), ("InvalidCard" : Str), ("InvalidPattern" : Str), ("InvalidForm" : Str), ("InvalidIndex" : Str), ("InvalidFactors" : Str), ("InvalidSeen" : Str), ("InvalidLevel" : Str), ("NoCard" : Str), ("NothingToUndo" : Str), ("TooMany" : Str), ("InvalidText" : Str), ("is_whole" : Str), ("is_word" : Str), ("is_card" : Str), ("is_deck" : Str), ("is_source" : Str), ("is_printing" : Str), ("is_action" : Str), ("is_wire" : Str), ("is_board" : Str), ("is_row" : Str), ("is_moment" : Str), ("is_pattern" : Str), ("need_deck" : Str), ("break_between" : Str), ("pattern_of" : Str), ("_law_vat" : Str), ("_law_under" : Str), ("_law_some" : Str), ("_law_is_whole" : Str), ("_law_truly" : Str), ("_law_is_one_of" : Str), ("_law_is_card" : Str), ("_law_is_pack" : Str), ("_law_is_from" : Str), ("_law_is_act" : Str)]
def gloL2 : List Str := [("_law_is_wire" : Str), ("_law_is_board" : Str), ("_law_is_chain" : Str), ("_law_is_plan" : Str), ("_law_pack" : Str), ("_law_act" : Str), ("_law_wire" : Str), ("_law_board" : Str), ("_law_names" : Str), ("_law_error" : Str), ("_law_odd" : Str), ("_law_bent" : Str), ("_law_judged" : Str), ("law" : Str)]
def gloA : List Str := gloL ++ gloL2
open He in
def fn0 : List He.DefD := [dfd "is_whole" (top 22), dfd "is_word" (top 23), dfd "is_card" (top 24), dfd "is_deck" (top 25), dfd "is_source" (top 26), dfd "is_printing" (top 27), dfd "is_action" (top 28), dfd "is_wire" (top 29), dfd "is_board" (top 30), dfd "is_row" (top 31), dfd "is_moment" (top 32), dfd "is_pattern" (top 33), dfd "need_deck" (top 34), dfd "break_between" (top 35), dfd "pattern_of" (top 36), dfd "_law_vat" (top 38), dfd "_law_under" (top 39), dfd "_law_some" (top 40), dfd "_law_is_whole" (top 41), dfd "_law_truly" (top 42), dfd "_law_is_one_of" (top 43), dfd "_law_is_card" (top 44), dfd "_law_is_pack" (top 45), dfd "_law_is_from" (top 46), dfd "_law_is_act" (top 47), dfd "_law_is_wire" (top 48), dfd "_law_is_board" (top 49), dfd "_law_is_chain" (top 50), dfd "_law_is_plan" (top 51), dfd "_law_pack" (top 52), dfd "_law_act" (top 53), dfd "_law_wire" (top 54), dfd "_law_board" (top 55), dfd "_law_names" (top 56), dfd "_law_error" (top 57), dfd "_law_odd" (top 58), dfd "_law_bent" (top 59), dfd "_law_judged" (top 60), dfd "law" (top 61)]
def fn : List He.DefD := fn0
def fa : List He.Fa := gloA.map He.Fa.glo ++ (biNames.map He.Fa.free ++ excs.map He.Fa.exc)
def tf : List Str := ["_law_judged"]
def ex (K : PySem.W.Frag) : Bool := (cons.all fun p => conB K p) && ((lbl.all fun p => lblB K labL csL "CardError" p.1 p.2) && decide (tf.map fun x => (He.cT K (x, none)).2).Nodup)
abbrev R : PySem.W.OpenRow := PySem.W.OpenLaw.row PySem.Challenge.rw_allcards_k01_boards_decks_and_patterns_r
abbrev hk : PySem.W.Hook := He.hookX 5 fa fn [] (tf.map fun x => (x, none)) ex
def ob (s : PySem.W.SharedT) : He.AlX := He.obsX 5 fa fn [] (tf.map fun x => (x, none)) ex (HandSHeadRun.getT s)
theorem ob_eq (s : PySem.W.SharedT) : ob s = hk.obs s.abs := He.obsX_eq (HandSHeadRun.getT_eq s)
def loose0 : List Str := [("CardError" : Str), ("InvalidBoard" : Str), ("InvalidRow" : Str), ("InvalidDeck" : Str), ("InvalidCard" : Str), ("InvalidPattern" : Str), ("InvalidForm" : Str), ("InvalidIndex" : Str), ("InvalidFactors" : Str), ("InvalidSeen" : Str), ("InvalidLevel" : Str), ("NoCard" : Str), ("NothingToUndo" : Str), ("TooMany" : Str), ("InvalidText" : Str), ("MOST_CARDS" : Str), ("MOST_WIRES" : Str), ("GREAT" : Str), ("TIMES" : Str), ("LEVELS" : Str), ("is_whole" : Str), ("is_word" : Str), ("is_card" : Str), ("is_deck" : Str), ("is_source" : Str), ("is_printing" : Str), ("is_action" : Str), ("is_wire" : Str), ("is_board" : Str), ("is_row" : Str), ("is_moment" : Str), ("is_pattern" : Str), ("need_deck" : Str), ("break_between" : Str), ("pattern_of" : Str), ("_law_vat" : Str), ("_law_under" : Str), ("_law_some" : Str), ("_law_is_whole" : Str), ("_law_truly" : Str)]
def loose1 : List Str := [("_law_is_one_of" : Str), ("_law_is_card" : Str), ("_law_is_pack" : Str), ("_law_is_from" : Str), ("_law_is_act" : Str), ("_law_is_wire" : Str), ("_law_is_board" : Str), ("_law_is_chain" : Str), ("_law_is_plan" : Str), ("_law_pack" : Str), ("_law_act" : Str), ("_law_wire" : Str), ("_law_board" : Str), ("_law_names" : Str), ("_law_error" : Str), ("_law_odd" : Str), ("_law_bent" : Str), ("_law_judged" : Str)]
def loose : List Str := loose0 ++ loose1
theorem run (w : World) : HandSHeadRun.RunEq R (PySem.W.view R.prog [61]) hk ob 6000 loose w := by
  intro os
  kernel_rfl
theorem memg {x : Str} (i : Nat) (h : gloA[i]? = some x) : He.Fa.glo x ∈ fa := List.mem_append_left _ (List.mem_map.mpr ⟨x, List.mem_of_getElem? h, rfl⟩)
theorem memb : ∀ x ∈ biNames, He.Fa.free x ∈ fa := fun x h => List.mem_append_right _ (List.mem_append_left _ (List.mem_map.mpr ⟨x, h, rfl⟩))
theorem meme : ∀ x ∈ excs, He.Fa.exc x ∈ fa := fun x h => List.mem_append_right _ (List.mem_append_right _ (List.mem_map.mpr ⟨x, h, rfl⟩))
theorem exc_glo : ∀ x ∈ excs, x ∈ gloA := by decide +kernel
theorem lbl_glo : ∀ p ∈ lbl, p.1 ∈ gloA := by decide +kernel
theorem facts {w : World} {K : PySem.W.Frag} {h : Heap} {mg : Str → Option Value} (X : K.In h) (G : h.Ns mainGlobals mg) (c : He.SaysD fa fn K) (hex : ex K = true) :
    ∃ fd, mg ("law" : Str) = some (.ref (He.ga K "law")) ∧ (∀ (s : Shared) (u : Value), BindsTo s fd ⟨[u], []⟩ [("script", u)]) ∧ ∀ base : Heap, (∀ y ∈ tf, LamX.TabB base mg (He.cT K (y, none)).1 (He.cT K (y, none)).2) → FnOk PW w K mg base (L2N.CX PW w) 111 (He.ga K "law") fd ["script"] (spF K mg (tabL K tf) 1 Flaw) := by
  obtain ⟨hcon, hex⟩ := He.ba hex
  obtain ⟨hlbl, hnd⟩ := He.ba hex
  have hnd := of_decide_eq_true hnd
  obtain ⟨fd, FD⟩ := c.defs (List.mem_of_getElem? (l := fn) (i := 38) (a := dfd "law" (top 61)) rfl)
  have FD : FunD K "law" "law" (defArgs (top 61)) (defBody (top 61)) (defScope (top 61)) [] [] (He.ga K "law") fd := FD
  have hb : BindOk "law" "law" (defArgs (top 61)) (defBody (top 61)) (defScope (top 61)) ["script"] := fun _ _ _ _ _ _ us hl => match us, hl with | [_], _ => rfl
  refine ⟨fd, He.glo_ok X G (c.facts (memg 53 rfl)), fun s u => FD.bindsA (ps := ["script"]) hb s [u] rfl, fun base TB => ?_⟩
  have I : ErrI fa fn K cf0 := { x := "_law_error", nx := "_law_names", sx := top 57, sn := top 56, CE := "CardError", L := labL, cs := csL, lbl := lbl, hx := List.mem_of_getElem? (l := fn) (i := 34) rfl, hn := List.mem_of_getElem? (l := fn) (i := 33) rfl, gx := memg 49 rfl, gn := memg 48 rfl, gC := memg 0 rfl, gl := fun p hp => List.mem_append_left _ (List.mem_map.mpr ⟨p.1, lbl_glo p hp, rfl⟩), sc := by kernel_rfl, sc2 := by kernel_rfl, bx := (fun _ _ _ _ _ _ us hl => match us, hl with | [_], _ => rfl), bn := (fun _ _ _ _ _ _ us hl => match us, hl with | [_], _ => rfl), rx := by kernel_rfl, rn := by kernel_rfl, al := by kernel_rfl, z1 := by decide +kernel, z2 := by decide +kernel, m1 := memb _ (by decide +kernel), m2 := memb _ (by decide +kernel), ok := hlbl, eq := by kernel_rfl }
  have w0 : Wd PW w K mg base (tabL K tf) cf0 0 := wd0 X G c rfl memb hcon (fun x hx => ⟨meme x hx, List.mem_append_left _ (List.mem_map.mpr ⟨x, exc_glo x hx, rfl⟩)⟩) (I.wd X G c)
  have k_is_whole : Kn PW w K mg base (tabL K tf) 3 "is_whole" 3 Fis_whole := kn_of (ps := ["value", "low", "high"]) w0 X G c (List.mem_of_getElem? (l := fn) (i := 0) (a := dfd "is_whole" (top 22)) rfl) (memg 15 rfl) (fun _ _ _ _ _ _ us hl => match us, hl with | [_, _, _], _ => rfl) sc_is_whole rd_is_whole rfl (fun z => by cases z)
  have k_is_word : Kn PW w K mg base (tabL K tf) 3 "is_word" 2 Fis_word := kn_of (ps := ["value", "words"]) w0 X G c (List.mem_of_getElem? (l := fn) (i := 1) (a := dfd "is_word" (top 23)) rfl) (memg 16 rfl) (fun _ _ _ _ _ _ us hl => match us, hl with | [_, _], _ => rfl) sc_is_word rd_is_word rfl (fun z => by cases z)
  have k_break_between : Kn PW w K mg base (tabL K tf) 3 "break_between" 2 Fbreak_between := kn_of (ps := ["one", "other"]) w0 X G c (List.mem_of_getElem? (l := fn) (i := 13) (a := dfd "break_between" (top 35)) rfl) (memg 28 rfl) (fun _ _ _ _ _ _ us hl => match us, hl with | [_, _], _ => rfl) sc_break_between rd_break_between rfl (fun z => by cases z)
  have k__law_vat : Kn PW w K mg base (tabL K tf) 3 "_law_vat" 2 F_law_vat := kn_of (ps := ["script", "k"]) w0 X G c (List.mem_of_getElem? (l := fn) (i := 15) (a := dfd "_law_vat" (top 38)) rfl) (memg 30 rfl) (fun _ _ _ _ _ _ us hl => match us, hl with | [_, _], _ => rfl) sc__law_vat rd__law_vat rfl (fun z => by cases z)
  have k__law_under : Kn PW w K mg base (tabL K tf) 3 "_law_under" 2 F_law_under := kn_of (ps := ["vat", "many"]) w0 X G c (List.mem_of_getElem? (l := fn) (i := 16) (a := dfd "_law_under" (top 39)) rfl) (memg 31 rfl) (fun _ _ _ _ _ _ us hl => match us, hl with | [_, _], _ => rfl) sc__law_under rd__law_under rfl (fun z => by cases z)
  have k__law_is_whole : Kn PW w K mg base (tabL K tf) 3 "_law_is_whole" 3 F_law_is_whole := kn_of (ps := ["value", "low", "high"]) w0 X G c (List.mem_of_getElem? (l := fn) (i := 18) (a := dfd "_law_is_whole" (top 41)) rfl) (memg 33 rfl) (fun _ _ _ _ _ _ us hl => match us, hl with | [_, _, _], _ => rfl) sc__law_is_whole rd__law_is_whole rfl (fun z => by cases z)
  have k__law_truly : Kn PW w K mg base (tabL K tf) 3 "_law_truly" 2 F_law_truly := kn_of (ps := ["found", "due"]) w0 X G c (List.mem_of_getElem? (l := fn) (i := 19) (a := dfd "_law_truly" (top 42)) rfl) (memg 34 rfl) (fun _ _ _ _ _ _ us hl => match us, hl with | [_, _], _ => rfl) sc__law_truly rd__law_truly rfl (fun z => by cases z)
  have k__law_is_one_of : Kn PW w K mg base (tabL K tf) 3 "_law_is_one_of" 2 F_law_is_one_of := kn_of (ps := ["value", "some"]) w0 X G c (List.mem_of_getElem? (l := fn) (i := 20) (a := dfd "_law_is_one_of" (top 43)) rfl) (memg 35 rfl) (fun _ _ _ _ _ _ us hl => match us, hl with | [_, _], _ => rfl) sc__law_is_one_of rd__law_is_one_of rfl (fun z => by cases z)
  have w1 : Wd PW w K mg base (tabL K tf) cf1 3 := ((((((((w0.add (by decide) k_is_whole).add (Nat.le_refl _) k_is_word).add (Nat.le_refl _) k_break_between).add (Nat.le_refl _) k__law_vat).add (Nat.le_refl _) k__law_under).add (Nat.le_refl _) k__law_is_whole).add (Nat.le_refl _) k__law_truly).add (Nat.le_refl _) k__law_is_one_of)
  have k_is_card : Kn PW w K mg base (tabL K tf) 6 "is_card" 1 Fis_card := kn_of (ps := ["value"]) w1 X G c (List.mem_of_getElem? (l := fn) (i := 2) (a := dfd "is_card" (top 24)) rfl) (memg 17 rfl) (fun _ _ _ _ _ _ us hl => match us, hl with | [_], _ => rfl) sc_is_card rd_is_card rfl (fun z => by cases z)
  have k_is_source : Kn PW w K mg base (tabL K tf) 6 "is_source" 3 Fis_source := kn_of (ps := ["board", "when", "value"]) w1 X G c (List.mem_of_getElem? (l := fn) (i := 4) (a := dfd "is_source" (top 26)) rfl) (memg 19 rfl) (fun _ _ _ _ _ _ us hl => match us, hl with | [_, _, _], _ => rfl) sc_is_source rd_is_source rfl (fun z => by cases z)
  have k_is_moment : Kn PW w K mg base (tabL K tf) 6 "is_moment" 1 Fis_moment := kn_of (ps := ["value"]) w1 X G c (List.mem_of_getElem? (l := fn) (i := 10) (a := dfd "is_moment" (top 32)) rfl) (memg 25 rfl) (fun _ _ _ _ _ _ us hl => match us, hl with | [_], _ => rfl) sc_is_moment rd_is_moment rfl (fun z => by cases z)
  have k__law_some : Kn PW w K mg base (tabL K tf) 6 "_law_some" 2 F_law_some := kn_of (ps := ["vat", "things"]) w1 X G c (List.mem_of_getElem? (l := fn) (i := 17) (a := dfd "_law_some" (top 40)) rfl) (memg 32 rfl) (fun _ _ _ _ _ _ us hl => match us, hl with | [_, _], _ => rfl) sc__law_some rd__law_some rfl (fun z => by cases z)
  have k__law_is_card : Kn PW w K mg base (tabL K tf) 6 "_law_is_card" 1 F_law_is_card := kn_of (ps := ["value"]) w1 X G c (List.mem_of_getElem? (l := fn) (i := 21) (a := dfd "_law_is_card" (top 44)) rfl) (memg 36 rfl) (fun _ _ _ _ _ _ us hl => match us, hl with | [_], _ => rfl) sc__law_is_card rd__law_is_card rfl (fun z => by cases z)
  have k__law_is_from : Kn PW w K mg base (tabL K tf) 6 "_law_is_from" 3 F_law_is_from := kn_of (ps := ["frame", "when", "value"]) w1 X G c (List.mem_of_getElem? (l := fn) (i := 23) (a := dfd "_law_is_from" (top 46)) rfl) (memg 38 rfl) (fun _ _ _ _ _ _ us hl => match us, hl with | [_, _, _], _ => rfl) sc__law_is_from rd__law_is_from rfl (fun z => by cases z)
  have k__law_is_plan : Kn PW w K mg base (tabL K tf) 6 "_law_is_plan" 1 F_law_is_plan := kn_of (ps := ["value"]) w1 X G c (List.mem_of_getElem? (l := fn) (i := 28) (a := dfd "_law_is_plan" (top 51)) rfl) (memg 43 rfl) (fun _ _ _ _ _ _ us hl => match us, hl with | [_], _ => rfl) sc__law_is_plan rd__law_is_plan rfl (fun z => by cases z)
  have w2 : Wd PW w K mg base (tabL K tf) cf2 6 := (((((((w1.add (by decide) k_is_card).add (Nat.le_refl _) k_is_source).add (Nat.le_refl _) k_is_moment).add (Nat.le_refl _) k__law_some).add (Nat.le_refl _) k__law_is_card).add (Nat.le_refl _) k__law_is_from).add (Nat.le_refl _) k__law_is_plan)
  have k_is_deck : Kn PW w K mg base (tabL K tf) 21 "is_deck" 1 Fis_deck := (kn_of (ps := ["value"]) w2 X G c (List.mem_of_getElem? (l := fn) (i := 3) (a := dfd "is_deck" (top 25)) rfl) (memg 18 rfl) (fun _ _ _ _ _ _ us hl => match us, hl with | [_], _ => rfl) sc_is_deck rd_is_deck rfl (fun z => by cases z)).mono (by decide)
  have k_is_printing : Kn PW w K mg base (tabL K tf) 21 "is_printing" 3 Fis_printing := (kn_of (ps := ["board", "when", "value"]) w2 X G c (List.mem_of_getElem? (l := fn) (i := 5) (a := dfd "is_printing" (top 27)) rfl) (memg 20 rfl) (fun _ _ _ _ _ _ us hl => match us, hl with | [_, _, _], _ => rfl) sc_is_printing rd_is_printing rfl (fun z => by cases z)).mono (by decide)
  have k_is_pattern : Kn PW w K mg base (tabL K tf) 21 "is_pattern" 1 Fis_pattern := (kn_of (ps := ["value"]) w2 X G c (List.mem_of_getElem? (l := fn) (i := 11) (a := dfd "is_pattern" (top 33)) rfl) (memg 26 rfl) (fun _ _ _ _ _ _ us hl => match us, hl with | [_], _ => rfl) sc_is_pattern rd_is_pattern rfl (fun z => by cases z)).mono (by decide)
  have k__law_is_pack : Kn PW w K mg base (tabL K tf) 21 "_law_is_pack" 1 F_law_is_pack := (kn_of (ps := ["value"]) w2 X G c (List.mem_of_getElem? (l := fn) (i := 22) (a := dfd "_law_is_pack" (top 45)) rfl) (memg 37 rfl) (fun _ _ _ _ _ _ us hl => match us, hl with | [_], _ => rfl) sc__law_is_pack rd__law_is_pack rfl (fun z => by cases z)).mono (by decide)
  have k__law_is_act : Kn PW w K mg base (tabL K tf) 21 "_law_is_act" 3 F_law_is_act := (kn_of (ps := ["frame", "when", "value"]) w2 X G c (List.mem_of_getElem? (l := fn) (i := 24) (a := dfd "_law_is_act" (top 47)) rfl) (memg 39 rfl) (fun _ _ _ _ _ _ us hl => match us, hl with | [_, _, _], _ => rfl) sc__law_is_act rd__law_is_act rfl (fun z => by cases z)).mono (by decide)
  have k__law_pack : Kn PW w K mg base (tabL K tf) 21 "_law_pack" 2 F_law_pack := (kn_of (ps := ["vat", "most"]) w2 X G c (List.mem_of_getElem? (l := fn) (i := 29) (a := dfd "_law_pack" (top 52)) rfl) (memg 44 rfl) (fun _ _ _ _ _ _ us hl => match us, hl with | [_, _], _ => rfl) sc__law_pack rd__law_pack rfl (fun z => by cases z)).mono (by decide)
  have k__law_act : Kn PW w K mg base (tabL K tf) 21 "_law_act" 3 F_law_act := (kn_of (ps := ["vat", "frame", "when"]) w2 X G c (List.mem_of_getElem? (l := fn) (i := 30) (a := dfd "_law_act" (top 53)) rfl) (memg 45 rfl) (fun _ _ _ _ _ _ us hl => match us, hl with | [_, _, _], _ => rfl) sc__law_act rd__law_act rfl (fun z => by cases z)).mono (by decide)
  have kr__law_odd : ∀ n, Kn PW w K mg base (tabL K tf) (9 + 3 * n) "_law_odd" 2 (R__law_odd n) := by
    intro n
    induction n with
    | zero => exact kn_of (ps := ["vat", "depth"]) w2 X G c (List.mem_of_getElem? (l := fn) (i := 35) (a := dfd "_law_odd" (top 58)) rfl) (memg 50 rfl) (fun _ _ _ _ _ _ us hl => match us, hl with | [_, _], _ => rfl) sc__law_odd rd0__law_odd rfl (fun z => by cases z)
    | succ n ih => exact kn_of (ps := ["vat", "depth"]) (w2.add (by omega) ih) X G c (List.mem_of_getElem? (l := fn) (i := 35) (a := dfd "_law_odd" (top 58)) rfl) (memg 50 rfl) (fun _ _ _ _ _ _ us hl => match us, hl with | [_, _], _ => rfl) sc__law_odd (rd__law_odd _) rfl (fun z => by cases z)
  have k__law_odd : Kn PW w K mg base (tabL K tf) 21 "_law_odd" 2 F_law_odd := (kr__law_odd 4).mono (by decide)
  have w3 : Wd PW w K mg base (tabL K tf) cf3 21 := ((((((((w2.add (by decide) k_is_deck).add (Nat.le_refl _) k_is_printing).add (Nat.le_refl _) k_is_pattern).add (Nat.le_refl _) k__law_is_pack).add (Nat.le_refl _) k__law_is_act).add (Nat.le_refl _) k__law_pack).add (Nat.le_refl _) k__law_act).add (Nat.le_refl _) k__law_odd)
  have k_is_action : Kn PW w K mg base (tabL K tf) 96 "is_action" 3 Fis_action := (kn_of (ps := ["board", "when", "value"]) w3 X G c (List.mem_of_getElem? (l := fn) (i := 6) (a := dfd "is_action" (top 28)) rfl) (memg 21 rfl) (fun _ _ _ _ _ _ us hl => match us, hl with | [_, _, _], _ => rfl) sc_is_action rd_is_action rfl (fun z => by cases z)).mono (by decide)
  have k_need_deck : Kn PW w K mg base (tabL K tf) 96 "need_deck" 1 Fneed_deck := (kn_of (ps := ["deck"]) w3 X G c (List.mem_of_getElem? (l := fn) (i := 12) (a := dfd "need_deck" (top 34)) rfl) (memg 27 rfl) (fun _ _ _ _ _ _ us hl => match us, hl with | [_], _ => rfl) sc_need_deck rd_need_deck rfl (fun z => by cases z)).mono (by decide)
  have k__law_is_wire : Kn PW w K mg base (tabL K tf) 96 "_law_is_wire" 2 F_law_is_wire := (kn_of (ps := ["frame", "value"]) w3 X G c (List.mem_of_getElem? (l := fn) (i := 25) (a := dfd "_law_is_wire" (top 48)) rfl) (memg 40 rfl) (fun _ _ _ _ _ _ us hl => match us, hl with | [_, _], _ => rfl) sc__law_is_wire rd__law_is_wire rfl (fun z => by cases z)).mono (by decide)
  have k__law_wire : Kn PW w K mg base (tabL K tf) 96 "_law_wire" 2 F_law_wire := (kn_of (ps := ["vat", "frame"]) w3 X G c (List.mem_of_getElem? (l := fn) (i := 31) (a := dfd "_law_wire" (top 54)) rfl) (memg 46 rfl) (fun _ _ _ _ _ _ us hl => match us, hl with | [_, _], _ => rfl) sc__law_wire rd__law_wire rfl (fun z => by cases z)).mono (by decide)
  have kr__law_bent : ∀ n, Kn PW w K mg base (tabL K tf) (24 + 3 * n) "_law_bent" 2 (R__law_bent n) := by
    intro n
    induction n with
    | zero => exact kn_of (ps := ["vat", "value"]) w3 X G c (List.mem_of_getElem? (l := fn) (i := 36) (a := dfd "_law_bent" (top 59)) rfl) (memg 51 rfl) (fun _ _ _ _ _ _ us hl => match us, hl with | [_, _], _ => rfl) sc__law_bent rd0__law_bent rfl (fun z => by cases z)
    | succ n ih => exact kn_of (ps := ["vat", "value"]) (w3.add (by omega) ih) X G c (List.mem_of_getElem? (l := fn) (i := 36) (a := dfd "_law_bent" (top 59)) rfl) (memg 51 rfl) (fun _ _ _ _ _ _ us hl => match us, hl with | [_, _], _ => rfl) sc__law_bent (rd__law_bent _) rfl (fun z => by cases z)
  have k__law_bent : Kn PW w K mg base (tabL K tf) 96 "_law_bent" 2 F_law_bent := (kr__law_bent 24).mono (by decide)
  have w4 : Wd PW w K mg base (tabL K tf) cf4 96 := (((((w3.add (by decide) k_is_action).add (Nat.le_refl _) k_need_deck).add (Nat.le_refl _) k__law_is_wire).add (Nat.le_refl _) k__law_wire).add (Nat.le_refl _) k__law_bent)
  have k_is_wire : Kn PW w K mg base (tabL K tf) 99 "is_wire" 2 Fis_wire := kn_of (ps := ["board", "value"]) w4 X G c (List.mem_of_getElem? (l := fn) (i := 7) (a := dfd "is_wire" (top 29)) rfl) (memg 22 rfl) (fun _ _ _ _ _ _ us hl => match us, hl with | [_, _], _ => rfl) sc_is_wire rd_is_wire rfl (fun z => by cases z)
  have k_pattern_of : Kn PW w K mg base (tabL K tf) 99 "pattern_of" 1 Fpattern_of := kn_of (ps := ["deck"]) w4 X G c (List.mem_of_getElem? (l := fn) (i := 14) (a := dfd "pattern_of" (top 36)) rfl) (memg 29 rfl) (fun _ _ _ _ _ _ us hl => match us, hl with | [_], _ => rfl) sc_pattern_of rd_pattern_of rfl (fun z => by cases z)
  have k__law_is_board : Kn PW w K mg base (tabL K tf) 99 "_law_is_board" 1 F_law_is_board := kn_of (ps := ["value"]) w4 X G c (List.mem_of_getElem? (l := fn) (i := 26) (a := dfd "_law_is_board" (top 49)) rfl) (memg 41 rfl) (fun _ _ _ _ _ _ us hl => match us, hl with | [_], _ => rfl) sc__law_is_board rd__law_is_board rfl (fun z => by cases z)
  have k__law_board : Kn PW w K mg base (tabL K tf) 99 "_law_board" 2 F_law_board := kn_of (ps := ["vat", "most"]) w4 X G c (List.mem_of_getElem? (l := fn) (i := 32) (a := dfd "_law_board" (top 55)) rfl) (memg 47 rfl) (fun _ _ _ _ _ _ us hl => match us, hl with | [_, _], _ => rfl) sc__law_board rd__law_board rfl (fun z => by cases z)
  have w5 : Wd PW w K mg base (tabL K tf) cf5 99 := ((((w4.add (by decide) k_is_wire).add (Nat.le_refl _) k_pattern_of).add (Nat.le_refl _) k__law_is_board).add (Nat.le_refl _) k__law_board)
  have k_is_board : Kn PW w K mg base (tabL K tf) 102 "is_board" 1 Fis_board := kn_of (ps := ["value"]) w5 X G c (List.mem_of_getElem? (l := fn) (i := 8) (a := dfd "is_board" (top 30)) rfl) (memg 23 rfl) (fun _ _ _ _ _ _ us hl => match us, hl with | [_], _ => rfl) sc_is_board rd_is_board rfl (fun z => by cases z)
  have k__law_is_chain : Kn PW w K mg base (tabL K tf) 102 "_law_is_chain" 1 F_law_is_chain := kn_of (ps := ["value"]) w5 X G c (List.mem_of_getElem? (l := fn) (i := 27) (a := dfd "_law_is_chain" (top 50)) rfl) (memg 42 rfl) (fun _ _ _ _ _ _ us hl => match us, hl with | [_], _ => rfl) sc__law_is_chain rd__law_is_chain rfl (fun z => by cases z)
  have w6 : Wd PW w K mg base (tabL K tf) cf6 102 := ((w5.add (by decide) k_is_board).add (Nat.le_refl _) k__law_is_chain)
  have k_is_row : Kn PW w K mg base (tabL K tf) 105 "is_row" 1 Fis_row := kn_of (ps := ["value"]) w6 X G c (List.mem_of_getElem? (l := fn) (i := 9) (a := dfd "is_row" (top 31)) rfl) (memg 24 rfl) (fun _ _ _ _ _ _ us hl => match us, hl with | [_], _ => rfl) sc_is_row rd_is_row rfl (fun z => by cases z)
  have w7 : Wd PW w K mg base (tabL K tf) cf7 105 := (w6.add (by decide) k_is_row)
  have k__law_judged : Kn PW w K mg base (tabL K tf) 108 "_law_judged" 1 F_law_judged := kn_of (ps := ["value"]) w7 X G c (List.mem_of_getElem? (l := fn) (i := 37) (a := dfd "_law_judged" (top 60)) rfl) (memg 52 rfl) (fun _ _ _ _ _ _ us hl => match us, hl with | [_], _ => rfl) sc__law_judged rd__law_judged rfl (fun _ fd FD => lamD_of (List.mem_of_getElem? (l := tf) (i := 0) rfl) hnd TB fd FD)
  have w8 : Wd PW w K mg base (tabL K tf) cf8 108 := (w7.add (by decide) k__law_judged)
  exact kn_law w8 c FD sc_law rd_law rfl (fun z => by cases z)
theorem hold (hF : ∀ ns : List Int, ns.length ≤ 63 → (∀ z ∈ ns, Builtin.Int.intBits z ≤ 1048576) → ∃ μ, Flaw [.scr ns] [] = some (.ok (.bl true), μ)) : PySem.Challenge.rw_allcards_k01_boards_decks_and_patterns_r.Holds := by
  open PySem.W PySem.Calls in
  w_on; o_law
  refine HandSHeadRun.head_any (r := PySem.W.OpenLaw.row PySem.Challenge.rw_allcards_k01_boards_decks_and_patterns_r) (q := PySem.W.view (PySem.W.OpenLaw.row PySem.Challenge.rw_allcards_k01_boards_decks_and_patterns_r).prog [61]) (H := hk) (ob := ob) (M := 6000) (loose := loose) (d := HandSHeadRun.topDef (PySem.W.OpenLaw.row PySem.Challenge.rw_allcards_k01_boards_decks_and_patterns_r).prog 61) (kwd := []) ob_eq
    (by kernel_rfl) (fun s => by kernel_rfl) run (by kernel_rfl) (by kernel_rfl) (by kernel_rfl) (by rfl) (by first | assumption | decide +kernel) (by decide +kernel) ⟨rfl, rfl, rfl, rfl, rfl, by decide +kernel⟩ ?hw ?hc
  case hw => w_witness2
  case hc =>
    exact walk_X (l := PySem.Challenge.rw_allcards_k01_boards_decks_and_patterns_r) (n := 63) (k := 111) (x := "script") (lx := "law") (tf := tf) (ex := ex) (fa := fa) (fn := fn) (F := Flaw) rfl (by decide) (by kernel_rfl) (by kernel_rfl) ⟨rfl, by decide, by decide⟩ (fun w K h mg X G c hex => facts X G c hex) hF
end K01
set_option Elab.async false
set_option linter.all false
set_option maxRecDepth 100000
set_option maxHeartbeats 4000000
/-! Lk1: law k01: judged values. -/
namespace K01
open PySem L2 Mi Pg Ev Dr Mm Kv
def brkW (a c : Mm.Key) : Str := if a = c then "none" else if a.1 = c.1 then "minor" else "major"
def momD (p : Card Int × Card Int) : D := .tup [.str (brkW p.1.k p.2.k), .bl p.2.h]
theorem zip_cards : ∀ (cs es : List (Card Int)), zipD (cs.map Card.d) (es.map Card.d) = (cs.zip es).map fun p => .tup [p.1.d, p.2.d]
  | [], _ => by simp [zipD]
  | _ :: _, [] => by simp [zipD]
  | c :: cs, e :: es => by
    have ih := zip_cards cs es
    unfold zipD at ih ⊢
    simp only [List.map_cons, List.zipWith_cons_cons, ih, List.zip_cons_cons]
def bodyP : Ss := match B_pattern_of with
  | .cons _ (.cons _ (.cons _ (.cons (.for_ _ _ b) _))) => b
  | _ => .nil
def bodyJ : Ss := match B__law_judged with
  | .cons _ (.cons _ (.cons _ (.cons _ (.cons _ (.cons (.for_ _ _ b) _))))) => b
  | _ => .nil
section
variable {μ : List Mo}
theorem brk_W {a c : Mm.Key} : Fbreak_between [keyD a, keyD c] μ = some (.ok (.str (brkW a c)), μ) := by
  have hk := eq_key (μ := μ) (a := a) (b := c)
  obtain ⟨a1, a2⟩ := a
  obtain ⟨c1, c2⟩ := c
  by_cases h : (a1, a2) = (c1, c2)
  · rw [decide_eq_true h] at hk
    have hw : brkW (a1, a2) (c1, c2) = "none" := if_pos h
    simp [Fbreak_between, B_break_between, go, hk, hw]
  · rw [decide_eq_false h] at hk
    by_cases h1 : a1 = c1
    · simp [Fbreak_between, B_break_between, go, hk, brkW, h]
      simp [h1, keyD]
    · simp [Fbreak_between, B_break_between, go, hk, brkW, h]
      simp [h1, keyD]
theorem ix2 {c : Card Int} : ixD μ c.d (.int 2) = some (.bl c.h) := by simp [Card.d]
theorem ix0 {c : Card Int} : ixD μ c.d (.int 0) = some (.int c.k.1) := by simp [Card.d]
theorem prog_loop {s0 : Sl} : ∀ (ps : List (Card Int × Card Int)) (acc : List D) (a b : Sl), acc.length + ps.length ≤ 1000000 →
    ∃ a' b', forL (.pair (.name 2) (.name 3)) (exs bodyP) (ps.map fun p => .tup [p.1.d, p.2.d]) [s0, .d (.tup acc), a, b] μ = some (.nx, [s0, .d (.tup (acc ++ ps.map momD)), a', b'], μ)
  | [], acc, a, b, _ => ⟨a, b, by simp [forL]⟩
  | p :: ps, acc, a, b, hz => by
    simp only [List.length_cons] at hz
    obtain ⟨a', b', ih⟩ := prog_loop (s0 := s0) ps (acc ++ [momD p]) (.d p.1.d) (.d p.2.d) (by simp; omega)
    have z1 : acc.length + 1 ≤ 16777216 := by omega
    have hb := brk_W (μ := μ) (a := p.1.k) (c := p.2.k)
    refine ⟨a', b', ?_⟩
    simp only [List.append_assoc, List.singleton_append] at ih
    rw [List.map_cons, List.map_cons, ← ih]
    simp [forL, bodyP, B_pattern_of, sl_key5, hb, ix2, szL, z1, momD]
theorem law_loop {s0 : Sl} : ∀ (ps : List (Card Int × Card Int)) (acc : List D) (a b c : Sl), acc.length + ps.length ≤ 1000000 →
    ∃ a' b' c', forL (.pair (.name 2) (.name 3)) (exs bodyJ) (ps.map fun p => .tup [p.1.d, p.2.d]) [s0, .lin acc, a, b, c] μ = some (.nx, [s0, .lin (acc ++ ps.map momD), a', b', c'], μ)
  | [], acc, a, b, c, _ => ⟨a, b, c, by simp [forL]⟩
  | p :: ps, acc, a, b, c, hz => by
    simp only [List.length_cons] at hz
    obtain ⟨a', b', c', ih⟩ := law_loop (s0 := s0) ps (acc ++ [momD p]) (.d p.1.d) (.d p.2.d) (.d (.str (brkW p.1.k p.2.k))) (by simp; omega)
    have z1 : acc.length < 16777216 := by omega
    have hk := eq_key (μ := μ) (a := p.1.k) (b := p.2.k)
    refine ⟨a', b', c', ?_⟩
    simp only [List.append_assoc, List.singleton_append] at ih
    rw [List.map_cons, List.map_cons, ← ih]
    by_cases h : p.1.k = p.2.k
    · rw [decide_eq_true h] at hk
      have hw : brkW p.1.k p.2.k = "none" := if_pos h
      simp [forL, bodyJ, B__law_judged, sl_key5, hk, ix2, szL, z1, momD, hw]
    · rw [decide_eq_false h] at hk
      by_cases h1 : p.1.k.1 = p.2.k.1
      · have hw : brkW p.1.k p.2.k = "minor" := by unfold brkW; rw [if_neg h, if_pos h1]
        have h1' : decide (p.1.k.1 = p.2.k.1) = true := decide_eq_true h1
        simp [forL, bodyJ, B__law_judged, sl_key5, hk, ix2, ix0, szL, z1, momD, hw, h1']
      · simp [forL, bodyJ, B__law_judged, sl_key5, hk, ix2, ix0, szL, z1, momD, brkW, h, h1]
theorem lab_deck : (NMS.lookup ("InvalidDeck" : Str)).map D.str = some (.str "deck value") := by kernel_rfl
theorem lab_pat : (NMS.lookup ("InvalidPattern" : Str)).map D.str = some (.str "pattern value") := by kernel_rfl
theorem q_deck : eqD μ (.str "deck value") (.str "deck value") = some true := by kernel_rfl
theorem q_pat : eqD μ (.str "pattern value") (.str "pattern value") = some true := by kernel_rfl
theorem truly_ok {b : Bool} : F_law_truly [.bl b, .bl b] μ = some (.ok (.bl true), μ) := by
  have := eq_bl (μ := μ) (a := b) (b := b)
  simp at this
  simp [F_law_truly, B__law_truly, go, this]
theorem ok_mom (p : Card Int × Card Int) : okN 63 (momD p) = true := by
  have : PyData.strOk (brkW p.1.k p.2.k) = true := by
    unfold brkW
    split
    · decide +kernel
    · split <;> decide +kernel
  simp [momD, okN, okNs, this]
theorem judged_ok {n s : Nat} {d : D} (hd : vN n s d = true) (hn : n ≤ 60) (hs : s ≤ 500) : F_law_judged [d] μ = some (.ok (.bl true), μ) := by
  have ho := vN_ok n s d hd
  have hz := vN_sz n s d (by omega) hd
  have b1 := board_B (μ := μ) ho (by omega) (sz_board hz)
  have b2 := lboard_B (μ := μ) ho (by omega) (sz_board hz)
  have r1 := row_B (μ := μ) ho (by omega) hz
  have r2 := lrow_B (μ := μ) ho (by omega) hz
  have d1 := deck_B (μ := μ) ho (by omega)
  have d2 := lpack_B (μ := μ) ho
  have p1 := pattern_B (μ := μ) ho (by omega)
  have p2 := lplan_B (μ := μ) ho
  cases hdk : deckB d with
  | false =>
    rw [hdk] at d1 d2
    have e := need_deck_no d1
    have e2 : Fpattern_of [d] μ = some (.error ("InvalidDeck", none), μ) := by simp [Fpattern_of, B_pattern_of, go, e]
    simp [F_law_judged, B__law_judged, go, b1, b2, r1, r2, d1, d2, p1, p2, truly_ok, e2, lab_deck, q_deck]
  | true =>
    rw [hdk] at d1 d2
    have e : Fneed_deck [d] μ = some (.ok .non, μ) := by simp [Fneed_deck, B_need_deck, go, d1]
    obtain ⟨cs, rfl, h40⟩ : ∃ cs : List (Card Int), d = .tup (cs.map Card.d) ∧ cs.length ≤ 40 := by
      cases d with
      | tup ds =>
        have h : (decide (ds.length ≤ 40) && ds.all cardB && ascB (ds.map keyOf)) = true := hdk
        simp only [Bool.and_eq_true, decide_eq_true_eq] at h
        obtain ⟨cs, rfl, _⟩ := cards_inv h.1.2
        exact ⟨cs, rfl, by simpa using h.1.1⟩
      | _ => simp [deckB] at hdk
    by_cases h12 : 1 ≤ cs.length ∧ cs.length ≤ 12
    · obtain ⟨c, cr, rfl⟩ : ∃ c cr, cs = c :: cr := by
        cases cs with
        | nil => simp at h12
        | cons c cr => exact ⟨c, cr, rfl⟩
      have hlc := h12.2
      simp only [List.length_cons] at hlc
      have k1 : decide ((1 : Int) ≤ (cr.length : Int) + 1) = true := decide_eq_true (by omega)
      have k2 : decide ((cr.length : Int) + 1 ≤ 12) = true := decide_eq_true (by omega)
      have k3 : decide ((0 : Int) < (cr.length : Int) + 1) = true := decide_eq_true (by omega)
      have k4 : decide ((cr.length : Int) + 1 < 13) = true := decide_eq_true (by omega)
      have hcut : cutL ((c :: cr).map Card.d) (some 1) none = cr.map Card.d := cut1 _ _
      have hzp : zipD ((c :: cr).map Card.d) (cr.map Card.d) = ((c :: cr).zip cr).map fun p => .tup [p.1.d, p.2.d] := zip_cards _ _
      obtain ⟨P, hP⟩ : ∃ P, (c :: cr).zip cr = P := ⟨_, rfl⟩
      have hPl : P.length ≤ 12 := by rw [← hP]; simp; omega
      rw [hP] at hzp
      obtain ⟨a', b', l1⟩ := prog_loop (μ := μ) (s0 := .d (.tup ((c :: cr).map Card.d))) P [.tup [.str "major", .bl c.h]] .un .un (by simp; omega)
      obtain ⟨a2, b2', c2, l2⟩ := law_loop (μ := μ) (s0 := .d (.tup ((c :: cr).map Card.d))) P [.tup [.str "major", .bl c.h]] .un .un .un (by simp; omega)
      have e2 : Fpattern_of [.tup ((c :: cr).map Card.d)] μ = some (.ok (.tup ([.tup [.str "major", .bl c.h]] ++ P.map momD)), μ) := by
        simp only [bodyP, B_pattern_of] at l1
        simp only [List.map_cons] at e hcut hzp l1 ⊢
        simp [Fpattern_of, B_pattern_of, go, e, k1, k2, szL, ix2, hcut, hzp, x_kfor, l1]
      have q := eq_same (μ := μ) (a := .tup ([.tup [.str "major", .bl c.h]] ++ P.map momD)) (by
        simp only [okN]
        exact okNs_all fun x hx => by
          rcases List.mem_append.mp hx with hx | hx
          · simp at hx; subst hx; simp [okN, okNs]; decide +kernel
          · obtain ⟨p, _, rfl⟩ := List.mem_map.mp hx
            exact ok_mom p)
      simp only [bodyJ, B__law_judged] at l2
      simp only [List.map_cons] at b1 b2 r1 r2 d1 d2 p1 p2 hcut hzp l2 e2 ⊢
      simp only [List.singleton_append] at l2 e2 q
      simp [F_law_judged, B__law_judged, go, b1, b2, r1, r2, d1, d2, p1, p2, truly_ok, k3, k4, szL, ix2, hcut, hzp, x_kfor, l2, e2, q]
    · have k : (decide ((1 : Int) ≤ cs.length) && decide ((cs.length : Int) ≤ 12)) = false := by
        rw [Bool.and_eq_false_iff]
        by_cases h1 : 1 ≤ cs.length
        · exact .inr (decide_eq_false (by omega))
        · exact .inl (decide_eq_false (by omega))
      have e2 : Fpattern_of [.tup (cs.map Card.d)] μ = some (.error ("InvalidPattern", none), μ) := by
        cases h1 : decide ((1 : Int) ≤ cs.length) with
        | false => simp [Fpattern_of, B_pattern_of, go, e, h1]
        | true =>
          rw [h1] at k
          simp only [Bool.true_and] at k
          simp [Fpattern_of, B_pattern_of, go, e, h1, k]
      by_cases h1 : 0 < cs.length
      · have h2 : decide ((cs.length : Int) < 13) = false := decide_eq_false (by omega)
        simp [F_law_judged, B__law_judged, go, b1, b2, r1, r2, d1, d2, p1, p2, truly_ok, h1, h2, e2, lab_pat, q_pat]
      · simp [F_law_judged, B__law_judged, go, b1, b2, r1, r2, d1, d2, p1, p2, truly_ok, h1, e2, lab_pat, q_pat]
end
end K01
set_option Elab.async false
set_option linter.all false
set_option maxRecDepth 100000
set_option maxHeartbeats 4000000
/-! Lk1b: law k01: what is judged. -/
namespace K01
open PySem L2 Mi Pg Ev Dr Mm Kv
theorem vi {i : Int} (h : i.natAbs < 1000000000000000000000000000000000) (n : Nat) : vN n 45 (.int i) = true := by
  have : (1000000000000000000000000000000000 : Nat) ≤ 10 ^ 45 := by decide
  have h2 : i.natAbs < 10 ^ 45 := by omega
  cases n <;> simpa [vN] using h2
theorem vup {n m : Nat} {d : D} (h : vN n 45 d = true) (hm : n ≤ m) : vN m 45 d = true := vN_mono n m 45 45 d hm (Nat.le_refl _) h
theorem vs {w : Str} (h : vN 0 45 (.str w) = true) (n : Nat) : vN n 45 (.str w) = true := vup h (Nat.zero_le _)
theorem vb (b : Bool) (n : Nat) : vN n 45 (.bl b) = true := by cases n <;> rfl
theorem vnon (n : Nat) : vN n 45 .non = true := by cases n <;> rfl
section
variable {nc ns : Nat}
theorem src_v {s : Src} {w : When} (h : s.ok nc w) (hc : nc ≤ 3) (n : Nat) : vN n 45 s.d = true := by
  cases s with
  | x => exact vs (by decide +kernel) n
  | y => exact vs (by decide +kernel) n
  | c i =>
    have : i < nc := h
    exact vi (by omega) n
theorem act_v {a : Dr.Act} {w : When} (h : a.ok nc ns w) (hc : nc ≤ 3) (hs : ns ≤ 2) : vN 2 45 a.d = true := by
  cases a with
  | add l s i =>
    obtain ⟨h1, h2⟩ : s.ok nc w ∧ i < nc := h
    refine vN_mk (by simp) fun x hx => ?_
    simp at hx
    rcases hx with rfl | rfl | rfl
    · cases l <;> exact vs (by decide +kernel) 1
    · exact src_v h1 hc 1
    · exact vi (by omega) 1
  | clear i =>
    have h2 : i < nc := h
    refine vN_mk (by simp) fun x hx => ?_
    simp at hx
    rcases hx with rfl | rfl
    · exact vs (by decide +kernel) 1
    · exact vi (by omega) 1
  | set i b =>
    have h2 : i < ns := h
    refine vN_mk (by simp) fun x hx => ?_
    simp at hx
    rcases hx with rfl | rfl | rfl
    · exact vs (by decide +kernel) 1
    · exact vi (by omega) 1
    · exact vb _ 1
  | print ss =>
    obtain ⟨h1, h2, h3⟩ : 1 ≤ ss.length ∧ ss.length ≤ 3 ∧ ∀ s ∈ ss, s.ok nc w := h
    refine vN_mk (by simp) fun x hx => ?_
    simp at hx
    rcases hx with rfl | rfl
    · exact vs (by decide +kernel) 1
    · refine vN_mk (by simp; omega) fun x hx => ?_
      obtain ⟨s, hs, rfl⟩ := List.mem_map.mp hx
      exact src_v (h3 s hs) hc 0
theorem wire_v {a : Wire} (h : a.ok nc ns) (hc : nc ≤ 3) (hs : ns ≤ 2) : vN 3 45 a.d = true := by
  obtain ⟨w, sw, a⟩ := a
  obtain ⟨h1, h2⟩ := h
  have h2 : a.ok nc ns w := h2
  refine vN_mk (by simp) fun x hx => ?_
  simp at hx
  rcases hx with rfl | rfl | rfl
  · cases w <;> exact vs (by decide +kernel) 2
  · rcases sw with _ | ⟨i, b⟩
    · exact vnon 2
    · have h1 : i < ns := h1 i b rfl
      refine vN_mk (by simp) fun x hx => ?_
      simp at hx
      rcases hx with rfl | rfl
      · exact vi (by omega) 1
      · exact vb _ 1
  · exact act_v h2 hc hs
end
theorem board_v {b : Board} (h : b.ok) : vN 5 45 b.d = true := by
  have hc := h.c
  have hs := h.s
  have hl := h.l
  refine vN_mk (by simp) fun x hx => ?_
  simp at hx
  rcases hx with rfl | rfl | rfl
  · exact vi (by omega) 4
  · exact vi (by omega) 4
  · refine vN_mk (by simp; omega) fun x hx => ?_
    obtain ⟨w, hw, rfl⟩ := List.mem_map.mp hx
    exact wire_v (h.w w hw) hc hs
theorem pack_v {cs : List (Card Int)} (h : ∀ c ∈ cs, c.ok) (hl : cs.length ≤ 45) : vN 2 45 (.tup (cs.map Card.d)) = true := by
  refine vN_mk (by simpa using hl) fun x hx => ?_
  obtain ⟨c, hc, rfl⟩ := List.mem_map.mp hx
  obtain ⟨k, hh, x, y⟩ := c
  have o := h _ hc
  have a1 := o.j0
  have a2 := o.j1
  have a3 := o.n0
  have a4 := o.n1
  have a5 := o.x0
  have a6 := o.x1
  have a7 := o.y0
  have a8 := o.y1
  simp only at a1 a2 a3 a4 a5 a6 a7 a8
  refine vN_mk (by simp) fun x hx => ?_
  simp at hx
  rcases hx with rfl | rfl | rfl | rfl | rfl
  · exact vi (by omega) 0
  · exact vi (by omega) 0
  · exact vb _ 0
  · exact vi (by omega) 0
  · exact vi (by omega) 0
def bodyK : Ss := match B_law with
  | .cons (.for_ _ _ b) _ => b
  | _ => .nil
def bodyV : Ss := match bodyK with
  | .cons _ (.cons _ (.cons _ (.cons (.for_ _ _ b) _))) => b
  | _ => .nil
def bodyC : Ss := match bodyV with
  | .cons _ (.cons _ (.cons (.for_ _ _ b) _)) => b
  | _ => .nil
section
variable {μ : List Mo} {k : Nat} {s0 s1 s3 s4 s5 a9 a10 a11 a12 : Sl}
/-- one change -/
theorem change_ok {n s m t c : Nat} {v w : D} (hv : Vat μ k) (h1 : vN n s v = true) (h2 : vN m t w = true) (hn : n ≤ 24) (hm : m ≤ 24) (hs : 45 ≤ s ∧ s ≤ 400) (ht : 45 ≤ t ∧ t ≤ 400) (a8 : Sl) : ∃ r μ', exs bodyC [s0, s1, .d (.obj k), s3, s4, s5, .d v, .d w, .d (.int c), a9, a10, a11, a12] μ = some (.nx, [s0, s1, .d (.obj k), s3, s4, s5, .d v, .d r, .d (.int c), a9, a10, a11, a12], μ') ∧ Vat μ' k ∧ vN ((if c % 3 = 0 then n else m) + 3) ((if c % 3 = 0 then s else t) + 2) r = true := by
  by_cases hc : c % 3 = 0
  · obtain ⟨r, μ1, e1, d1, q⟩ := bent_spec 24 n s v μ hn (by omega) hs.1 (by omega) h1 hv
    have e1 : F_law_bent [.obj k, v] μ = some (.ok r, μ1) := e1
    have hj := judged_ok (μ := μ1) q (by omega) (by omega)
    have hc2 : ((c : Int) % 3 = 0) := by omega
    refine ⟨r, μ1, ?_, d1.vat, by rw [if_pos hc, if_pos hc]; exact q⟩
    simp [bodyC, bodyV, bodyK, B_law, hc2, e1, hj]
  · obtain ⟨r, μ1, e1, d1, q⟩ := bent_spec 24 m t w μ hm (by omega) ht.1 (by omega) h2 hv
    have e1 : F_law_bent [.obj k, w] μ = some (.ok r, μ1) := e1
    have hj := judged_ok (μ := μ1) q (by omega) (by omega)
    have hc2 : ¬ ((c : Int) % 3 = 0) := by omega
    refine ⟨r, μ1, ?_, d1.vat, by rw [if_neg hc, if_neg hc]; exact q⟩
    simp [bodyC, bodyV, bodyK, B_law, hc2, e1, hj]
theorem changes_ok {v : D} (hv : Vat μ k) (h1 : vN 6 45 v = true) (a8 : Sl) : ∃ r μ', forL (.name 8) (exs bodyC) [.int 0, .int 1, .int 2, .int 3, .int 4, .int 5, .int 6, .int 7] [s0, s1, .d (.obj k), s3, s4, s5, .d v, .d v, a8, a9, a10, a11, a12] μ = some (.nx, [s0, s1, .d (.obj k), s3, s4, s5, .d v, .d r, .d (.int 7), a9, a10, a11, a12], μ') ∧ Vat μ' k := by
  obtain ⟨r0, μ0, e0, v0, q0⟩ := change_ok (s0 := s0) (s1 := s1) (s3 := s3) (s4 := s4) (s5 := s5) (a9 := a9) (a10 := a10) (a11 := a11) (a12 := a12) (c := 0) hv h1 h1 (by omega) (by omega) (by omega) (by omega) .un
  obtain ⟨r1, μ1, e1, v1, q1⟩ := change_ok (s0 := s0) (s1 := s1) (s3 := s3) (s4 := s4) (s5 := s5) (a9 := a9) (a10 := a10) (a11 := a11) (a12 := a12) (c := 1) v0 h1 q0 (by omega) (by decide) (by omega) (by decide) .un
  obtain ⟨r2, μ2, e2, v2, q2⟩ := change_ok (s0 := s0) (s1 := s1) (s3 := s3) (s4 := s4) (s5 := s5) (a9 := a9) (a10 := a10) (a11 := a11) (a12 := a12) (c := 2) v1 h1 q1 (by omega) (by decide) (by omega) (by decide) .un
  obtain ⟨r3, μ3, e3, v3, q3⟩ := change_ok (s0 := s0) (s1 := s1) (s3 := s3) (s4 := s4) (s5 := s5) (a9 := a9) (a10 := a10) (a11 := a11) (a12 := a12) (c := 3) v2 h1 q2 (by omega) (by decide) (by omega) (by decide) .un
  obtain ⟨r4, μ4, e4, v4, q4⟩ := change_ok (s0 := s0) (s1 := s1) (s3 := s3) (s4 := s4) (s5 := s5) (a9 := a9) (a10 := a10) (a11 := a11) (a12 := a12) (c := 4) v3 h1 q3 (by omega) (by decide) (by omega) (by decide) .un
  obtain ⟨r5, μ5, e5, v5, q5⟩ := change_ok (s0 := s0) (s1 := s1) (s3 := s3) (s4 := s4) (s5 := s5) (a9 := a9) (a10 := a10) (a11 := a11) (a12 := a12) (c := 5) v4 h1 q4 (by omega) (by decide) (by omega) (by decide) .un
  obtain ⟨r6, μ6, e6, v6, q6⟩ := change_ok (s0 := s0) (s1 := s1) (s3 := s3) (s4 := s4) (s5 := s5) (a9 := a9) (a10 := a10) (a11 := a11) (a12 := a12) (c := 6) v5 h1 q5 (by omega) (by decide) (by omega) (by decide) .un
  obtain ⟨r7, μ7, e7, v7, q7⟩ := change_ok (s0 := s0) (s1 := s1) (s3 := s3) (s4 := s4) (s5 := s5) (a9 := a9) (a10 := a10) (a11 := a11) (a12 := a12) (c := 7) v6 h1 q6 (by omega) (by decide) (by omega) (by decide) .un
  refine ⟨r7, μ7, ?_, v7⟩
  simp only [Int.cast_ofNat_Int] at e0 e1 e2 e3 e4 e5 e6 e7
  simp [forL, e0, e1, e2, e3, e4, e5, e6, e7]
/-- one value -/
theorem value_ok {v : D} (hv : Vat μ k) (h1 : vN 6 45 v = true) (a7 a8 : Sl) : ∃ r μ', exs bodyV [s0, s1, .d (.obj k), s3, s4, s5, .d v, a7, a8, a9, a10, a11, a12] μ = some (.nx, [s0, s1, .d (.obj k), s3, s4, s5, .d v, .d r, .d (.int 7), a9, a10, a11, a12], μ') ∧ Vat μ' k := by
  obtain ⟨r, μ1, e1, v1⟩ := changes_ok (s0 := s0) (s1 := s1) (s3 := s3) (s4 := s4) (s5 := s5) (a9 := a9) (a10 := a10) (a11 := a11) (a12 := a12) hv h1 a8
  have hj := judged_ok (μ := μ) h1 (by omega) (by omega)
  have hr : rgD 0 8 = [.int 0, .int 1, .int 2, .int 3, .int 4, .int 5, .int 6, .int 7] := rfl
  have hk : rgOk 0 8 = true := by decide
  refine ⟨r, μ1, ?_, v1⟩
  simp [bodyC, bodyV, bodyK, B_law] at e1
  simp [bodyV, bodyK, B_law, hj, hr, hk, x_kfor, e1]
theorem values_ok : ∀ (vs : List D) (a6 a7 a8 : Sl) (μ : List Mo), Vat μ k → (∀ v ∈ vs, vN 6 45 v = true) → ∃ f6 f7 f8 μ', forL (.name 6) (exs bodyV) vs [s0, s1, .d (.obj k), s3, s4, s5, a6, a7, a8, a9, a10, a11, a12] μ = some (.nx, [s0, s1, .d (.obj k), s3, s4, s5, f6, f7, f8, a9, a10, a11, a12], μ') ∧ Vat μ' k
  | [], a6, a7, a8, μ, hv, _ => ⟨a6, a7, a8, μ, by simp [forL], hv⟩
  | v :: vs, a6, a7, a8, μ, hv, h => by
    obtain ⟨r, μ1, e1, v1⟩ := value_ok (s0 := s0) (s1 := s1) (s3 := s3) (s4 := s4) (s5 := s5) (a9 := a9) (a10 := a10) (a11 := a11) (a12 := a12) hv (h v List.mem_cons_self) a7 a8
    obtain ⟨f6, f7, f8, μ', e2, v2⟩ := values_ok vs (.d v) (.d r) (.d (.int 7)) μ1 v1 fun y hy => h y (List.mem_cons_of_mem _ hy)
    refine ⟨f6, f7, f8, μ', ?_, v2⟩
    rw [← e2]
    simp [forL, e1]
theorem loop_step {ns : List Int} {c : Nat} (hk : c ≤ 1000) {a2 a3 a4 a5 a6 a7 a8 : Sl} : ∃ f2 f3 f4 f5 f6 f7 f8 μ', exs bodyK [.d (.scr ns), .d (.int c), a2, a3, a4, a5, a6, a7, a8, a9, a10, a11, .un] μ = some (.nx, [.d (.scr ns), .d (.int c), f2, f3, f4, f5, f6, f7, f8, a9, a10, a11, .un], μ') := by
  obtain ⟨μ1, e1, v⟩ := vat_spec (μ := μ) (ns := ns) hk
  obtain ⟨d1, μ2, e2, q2, one, rfl, c1, n1, l1, w1⟩ := board_spec (n := μ.length) (μ := μ1) (k := 8) v.vat (by omega)
  obtain ⟨d2, μ3, e3, q3, cs, rfl, hcs, hl⟩ := pack_spec (k := 14) q2.vat (by omega)
  have o1 : one.ok := ⟨by omega, by omega, by omega, w1⟩
  obtain ⟨m, μ4, e4, q4, m0, m1⟩ := under_spec (m := 14) q3.vat (by decide) (by decide)
  have hrk : rgOk 0 m = true := by unfold rgOk; simp; omega
  have lrk : (rgD 0 m).length = m.toNat := by unfold rgD; simp
  obtain ⟨ds, μ5, e5, q5, l5, p5⟩ := comp_draw (n := μ.length) (tg := .name 12) (keep := ev (.con (.bl true))) (elt := ev (.tup (.cons (.call F_law_some (.cons (.var 2) (.cons (.lst (.cons (.con (.str "none")) (.cons (.con (.str "minor")) (.cons (.con (.str "major")) .nil)))) .nil))) (.cons (.con (.bl true)) .nil)))) (δ := [.d (.scr ns), .d (.int c), .d (.obj μ.length), .d one.d, .d (.tup (cs.map Card.d)), a5, a6, a7, a8, a9, a10, a11, .un]) (Q := fun d => vN 1 45 d = true) (fun δ μ => by simp) (rgD 0 m) [] μ4 q4.vat (by rw [lrk, szL]; show 0 + _ ≤ _; omega) (fun x hx => ⟨_, rfl, fun μ v => by
    obtain ⟨d, hd, μ', e, dn⟩ := some_spec (xs := [.str "none", .str "minor", .str "major"]) v (by simp) (by simp)
    refine ⟨.tup [d, .bl true], μ', by simp [e, szL], dn, vN_mk (by simp) fun y hy => ?_⟩
    simp at hy
    rcases hy with rfl | rfl
    · simp at hd
      rcases hd with rfl | rfl | rfl <;> exact vs (by decide +kernel) 0
    · exact vb _ 0⟩)
  rw [List.nil_append] at e5
  have hdl : ds.length ≤ 14 := by rw [l5, lrk]; omega
  obtain ⟨d6, μ6, e6, q6, two, rfl, c2, n2, l2, w2⟩ := board_spec (n := μ.length) (μ := μ5) (k := 4) q5.vat (by omega)
  have o2 : two.ok := ⟨by omega, by omega, by omega, w2⟩
  have vo := board_v o1
  have vt := board_v o2
  have vp := pack_v hcs.all (by omega)
  have vpl : vN 2 45 (.tup ds) = true := vN_mk (by omega) p5
  obtain ⟨f6, f7, f8, μ7, e7, v7⟩ := values_ok (s0 := .d (.scr ns)) (s1 := .d (.int c)) (s3 := .d one.d) (s4 := .d (.tup (cs.map Card.d))) (s5 := .d (.tup ds)) (a9 := a9) (a10 := a10) (a11 := a11) (a12 := .un) [one.d, .tup [one.d], .tup [one.d, two.d], .tup (cs.map Card.d), .tup ds, .tup ([.tup [.str "major", .bl false]] ++ ds)] a6 a7 a8 μ6 q6.vat (by
    intro x hx
    simp at hx
    rcases hx with rfl | rfl | rfl | rfl | rfl | rfl
    · exact vup vo (by omega)
    · exact vN_mk (by simp) fun y hy => by simp at hy; subst hy; exact vo
    · refine vN_mk (by simp) fun y hy => ?_
      simp at hy
      rcases hy with rfl | rfl
      · exact vo
      · exact vt
    · exact vup vp (by omega)
    · exact vup vpl (by omega)
    · refine vup (vN_mk (m := 1) (by simp; omega) fun y hy => ?_) (by omega)
      rcases List.mem_cons.mp hy with rfl | hy
      · refine vN_mk (by simp) fun y hy => ?_
        simp at hy
        rcases hy with rfl | rfl
        · exact vs (by decide +kernel) 0
        · exact vb _ 0
      · exact p5 y hy)
  obtain ⟨d8, μ8, e8, q8, w8⟩ := oddF_spec (k := μ.length) (dep := 2) v7 (by omega)
  have hj := judged_ok (μ := μ8) w8 (by omega) (by omega)
  refine ⟨.d (.obj μ.length), .d one.d, .d (.tup (cs.map Card.d)), .d (.tup ds), f6, f7, f8, μ8, ?_⟩
  have z1 : 1 + ds.length ≤ 16777216 := by omega
  simp at e2 e3 e5 e6 e8
  simp [bodyV, bodyK, B_law] at e7
  simp [bodyK, B_law, e1, e2, e3, e4, szL, hrk, kcomp, wipeS, e5, e6, z1, x_kfor, e7, e8, hj]
theorem loop_ok {ns : List Int} : ∀ (xs : List Nat) (a1 a2 a3 a4 a5 a6 a7 a8 : Sl) (μ : List Mo), (∀ x ∈ xs, x ≤ 1000) →
    ∃ f1 f2 f3 f4 f5 f6 f7 f8 μ', forL (.name 1) (exs bodyK) (xs.map fun (i : Nat) => D.int i) [.d (.scr ns), a1, a2, a3, a4, a5, a6, a7, a8, a9, a10, a11, .un] μ = some (.nx, [.d (.scr ns), f1, f2, f3, f4, f5, f6, f7, f8, a9, a10, a11, .un], μ')
  | [], a1, a2, a3, a4, a5, a6, a7, a8, μ, _ => ⟨a1, a2, a3, a4, a5, a6, a7, a8, μ, by simp [forL]⟩
  | x :: xs, a1, a2, a3, a4, a5, a6, a7, a8, μ, h => by
    obtain ⟨g2, g3, g4, g5, g6, g7, g8, μ1, e1⟩ := loop_step (μ := μ) (ns := ns) (h x List.mem_cons_self) (a2 := a2) (a3 := a3) (a4 := a4) (a5 := a5) (a6 := a6) (a7 := a7) (a8 := a8) (a9 := a9) (a10 := a10) (a11 := a11)
    obtain ⟨f1, f2, f3, f4, f5, f6, f7, f8, μ', e2⟩ := loop_ok (ns := ns) xs (.d (.int x)) g2 g3 g4 g5 g6 g7 g8 μ1 fun y hy => h y (List.mem_cons_of_mem _ hy)
    refine ⟨f1, f2, f3, f4, f5, f6, f7, f8, μ', ?_⟩
    rw [← e2]
    simp [forL, e1]
end
end K01
set_option Elab.async false
set_option linter.all false
set_option maxRecDepth 100000
set_option maxHeartbeats 4000000
/-! Lk1c: law k01: its end. -/
namespace K01
open PySem L2 Mi Pg Ev Dr Mm Kv
def hdS : Ss → Mi.St
  | .cons s _ => s
  | .nil => .pass
def W0 : D := .tup [.str "card", .non, .tup [.str "print", .tup [.str "x", .str "y", .str "x"]]]
def C0 : D := .tup [.int 0, .int 0, .bl true, .int 1, .int 2]
def L1 : List D := [.tup [.int 0, .int 0, .tup (List.replicate 8 W0)], .tup [.int 0, .int 0, .tup (List.replicate 9 W0)], .tup [.int 3, .int 2, .tup []], .tup [.int 4, .int 0, .tup []], .tup [.int 0, .int 3, .tup []], .tup (List.replicate 2 (.tup [.int 0, .int 0, .tup (List.replicate 4 W0)]))]
def L2' : List D := [.tup [.tup [.int 0, .int 0, .tup (List.replicate 4 W0)], .tup [.int 0, .int 0, .tup (List.replicate 5 W0)]], .tup (List.replicate 3 (.tup [.int 0, .int 0, .tup []])), .tup (List.replicate 40 C0), .tup (List.replicate 41 C0)]
def L3 : List D := [.tup [.tup [.int 1, .int 1, .bl true, .int 0, .int 0], .tup [.int 1, .int 0, .bl true, .int 0, .int 0]], .tup [.tup [.int 1, .int 1, .bl true, .int 0, .int 0], .tup [.int 2, .int 0, .bl true, .int 0, .int 0]]]
def L4 : List D := [.tup [.tup [.int 1000000000, .int 0, .bl true, .int 1000000000000000000000000000000, .int (-1000000000000000000000000000000)]], .tup [.tup [.int 0, .int 1000000001, .bl true, .int 0, .int 0]]]
def L5 : List D := [.tup [.tup [.int 0, .int 0, .bl true, .int 1000000000000000000000000000001, .int 0]], .tup [.int 1, .int 0, .tup [.tup [.str "minor", .non, .tup [.str "print", .tup [.str "x"]]]]], .tup [.tup [.str "none", .bl true]]]
def L6 : List D := [.tup [.int 1, .int 1, .tup [.tup [.str "card", .tup [.int 1, .bl true], .tup [.str "clear", .int 0]]]], .tup [.int 1, .int 0, .tup [.tup [.str "card", .non, .tup [.str "print", .tup []]]]], .tup []]
theorem all_v : ∀ d ∈ L1 ++ L2' ++ L3 ++ L4 ++ L5 ++ L6, vN 8 60 d = true := by decide +kernel
section
variable {μ : List Mo} {x : D}
theorem m8 : mulD (.tup [x]) (.int 8) = some (.tup (List.replicate 8 x)) := mul_rep (n := 8) (by omega)
theorem m9 : mulD (.tup [x]) (.int 9) = some (.tup (List.replicate 9 x)) := mul_rep (n := 9) (by omega)
theorem m4 : mulD (.tup [x]) (.int 4) = some (.tup (List.replicate 4 x)) := mul_rep (n := 4) (by omega)
theorem m5 : mulD (.tup [x]) (.int 5) = some (.tup (List.replicate 5 x)) := mul_rep (n := 5) (by omega)
theorem m2 : mulD (.tup [x]) (.int 2) = some (.tup (List.replicate 2 x)) := mul_rep (n := 2) (by omega)
theorem m3 : mulD (.tup [x]) (.int 3) = some (.tup (List.replicate 3 x)) := mul_rep (n := 3) (by omega)
theorem m40 : mulD (.tup [x]) (.int 40) = some (.tup (List.replicate 40 x)) := mul_rep (n := 40) (by omega)
theorem m41 : mulD (.tup [x]) (.int 41) = some (.tup (List.replicate 41 x)) := mul_rep (n := 41) (by omega)
end
theorem hF (ns : List Int) (h : ns.length ≤ 63) : ∃ μ, Flaw [.scr ns] [] = some (.ok (.bl true), μ) := by
  obtain ⟨m, hm, hm2⟩ : ∃ m : Nat, (if (if (ns.length : Int) < 9 then (ns.length : Int) else 9) > 4 then (if (ns.length : Int) < 9 then (ns.length : Int) else 9) else 4) = (m : Int) ∧ m ≤ 15 := by
    refine ⟨(if (if (ns.length : Int) < 9 then (ns.length : Int) else 9) > 4 then (if (ns.length : Int) < 9 then (ns.length : Int) else 9) else 4).toNat, ?_, ?_⟩ <;> (split <;> split) <;> omega
  obtain ⟨f1, f2, f3, f4, f5, f6, f7, f8, μ, e⟩ := loop_ok (ns := ns) (a9 := .un) (a10 := .un) (a11 := .un) (List.range m) .un .un .un .un .un .un .un .un [] (fun x hx => by have := List.mem_range.mp hx; omega)
  have hrg : rgD 0 (m : Int) = (List.range m).map fun (i : Nat) => D.int i := by unfold rgD; simp
  have hok : rgOk 0 (m : Int) = true := by unfold rgOk; simp; omega
  have tail : fin (exs (dropS 1 B_law) [.d (.scr ns), f1, f2, f3, f4, f5, f6, f7, f8, .un, .un, .un, .un] μ) = some (.ok (.bl true), μ) := by
    have hc : ∀ δ : List Sl, δ.length = 13 → compL (.name 6) (ev (.not_ (.call F_law_judged (.cons (.var 6) .nil)))) (ev (.var 6)) δ (L1 ++ L2' ++ L3 ++ L4 ++ L5 ++ L6) [] μ = some (.ok (.lst []), μ) := fun δ hδ => comp_none _ (by
      intro x hx
      have hj := judged_ok (μ := μ) (all_v x hx) (by omega) (by omega)
      have h6 : (δ.set 6 (.d x))[6]? = some (.d x) := by rw [List.getElem?_set_self (by omega)]
      exact ⟨_, rfl, by simp [h6, hj]⟩)
    have a1 : addD μ (.lst L1) (.lst L2') = some (.lst (L1 ++ L2')) := a_lst (by rw [szL]; decide)
    have a2 : addD μ (.lst (L1 ++ L2')) (.lst L3) = some (.lst (L1 ++ L2' ++ L3)) := a_lst (by rw [szL]; decide)
    have a3 : addD μ (.lst (L1 ++ L2' ++ L3)) (.lst L4) = some (.lst (L1 ++ L2' ++ L3 ++ L4)) := a_lst (by rw [szL]; decide)
    have a4 : addD μ (.lst (L1 ++ L2' ++ L3 ++ L4)) (.lst L5) = some (.lst (L1 ++ L2' ++ L3 ++ L4 ++ L5)) := a_lst (by rw [szL]; decide)
    have a5 : addD μ (.lst (L1 ++ L2' ++ L3 ++ L4 ++ L5)) (.lst L6) = some (.lst (L1 ++ L2' ++ L3 ++ L4 ++ L5 ++ L6)) := a_lst (by rw [szL]; decide)
    obtain ⟨M1, hM1⟩ : ∃ M, L1 ++ L2' = M := ⟨_, rfl⟩
    rw [hM1] at a1 a2 a3 a4 a5 hc
    obtain ⟨M2, hM2⟩ : ∃ M, M1 ++ L3 = M := ⟨_, rfl⟩
    rw [hM2] at a2 a3 a4 a5 hc
    obtain ⟨M3, hM3⟩ : ∃ M, M2 ++ L4 = M := ⟨_, rfl⟩
    rw [hM3] at a3 a4 a5 hc
    obtain ⟨M4, hM4⟩ : ∃ M, M3 ++ L5 = M := ⟨_, rfl⟩
    rw [hM4] at a4 a5 hc
    obtain ⟨M5, hM5⟩ : ∃ M, M4 ++ L6 = M := ⟨_, rfl⟩
    rw [hM5] at a5 hc
    -- statement by statement
    have s1 : Mi.ex (hdS (dropS 1 B_law)) [.d (.scr ns), f1, f2, f3, f4, f5, f6, f7, f8, .un, .un, .un, .un] μ = some (.nx, [.d (.scr ns), f1, f2, f3, f4, f5, f6, f7, f8, .d W0, .d C0, .un, .un], μ) := by
      simp [hdS, dropS, B_law, szL, W0, C0]
    have s2 : Mi.ex (hdS (dropS 2 B_law)) [.d (.scr ns), f1, f2, f3, f4, f5, f6, f7, f8, .d W0, .d C0, .un, .un] μ = some (.nx, [.d (.scr ns), f1, f2, f3, f4, f5, f6, f7, f8, .d W0, .d C0, .d (.lst L1), .un], μ) := by
      unfold L1
      generalize W0 = W
      simp [hdS, dropS, B_law, szL, m8, m9, m4, m2]
    have s3 : Mi.ex (hdS (dropS 3 B_law)) [.d (.scr ns), f1, f2, f3, f4, f5, f6, f7, f8, .d W0, .d C0, .d (.lst L1), .un] μ = some (.nx, [.d (.scr ns), f1, f2, f3, f4, f5, f6, f7, f8, .d W0, .d C0, .d (.lst M1), .un], μ) := by
      unfold L2' at a1
      generalize W0 = W at *
      generalize L1 = R at *
      generalize C0 = C at *
      obtain ⟨X40, h40⟩ : ∃ X, List.replicate 40 C = X := ⟨_, rfl⟩
      obtain ⟨X41, h41⟩ : ∃ X, List.replicate 41 C = X := ⟨_, rfl⟩
      have n40 := m40 (x := C)
      have n41 := m41 (x := C)
      rw [h40] at a1 n40
      rw [h41] at a1 n41
      have n4 := m4 (x := W)
      have n5 := m5 (x := W)
      have n3 := m3 (x := D.tup [.int 0, .int 0, .tup []])
      obtain ⟨X4, h4⟩ : ∃ X, List.replicate 4 W = X := ⟨_, rfl⟩
      obtain ⟨X5, h5⟩ : ∃ X, List.replicate 5 W = X := ⟨_, rfl⟩
      obtain ⟨X3, h3⟩ : ∃ X, List.replicate 3 (D.tup [.int 0, .int 0, .tup []]) = X := ⟨_, rfl⟩
      rw [h4] at n4 a1
      rw [h5] at n5 a1
      rw [h3] at n3 a1
      simp only [← o_add (μ := μ)] at a1
      simp [-o_add, hdS, dropS, B_law, szL, n4, n5, n3, n40, n41, a1]
    have s4 : Mi.ex (hdS (dropS 4 B_law)) [.d (.scr ns), f1, f2, f3, f4, f5, f6, f7, f8, .d W0, .d C0, .d (.lst M1), .un] μ = some (.nx, [.d (.scr ns), f1, f2, f3, f4, f5, f6, f7, f8, .d W0, .d C0, .d (.lst M2), .un], μ) := by
      unfold L3 at a2
      simp only [← o_add (μ := μ)] at a2
      simp [-o_add, hdS, dropS, B_law, szL, a2]
    have s5 : Mi.ex (hdS (dropS 5 B_law)) [.d (.scr ns), f1, f2, f3, f4, f5, f6, f7, f8, .d W0, .d C0, .d (.lst M2), .un] μ = some (.nx, [.d (.scr ns), f1, f2, f3, f4, f5, f6, f7, f8, .d W0, .d C0, .d (.lst M3), .un], μ) := by
      unfold L4 at a3
      have p1 : Op.do .add μ (.int 1000000000) (.int 1) = some (.int 1000000001) := by simp
      simp only [← o_add (μ := μ)] at a3
      simp [-o_add, hdS, dropS, B_law, szL, pow9, pow30, p1, a3]
    have s6 : Mi.ex (hdS (dropS 6 B_law)) [.d (.scr ns), f1, f2, f3, f4, f5, f6, f7, f8, .d W0, .d C0, .d (.lst M3), .un] μ = some (.nx, [.d (.scr ns), f1, f2, f3, f4, f5, f6, f7, f8, .d W0, .d C0, .d (.lst M4), .un], μ) := by
      unfold L5 at a4
      have p1 : Op.do .add μ (.int 1000000000000000000000000000000) (.int 1) = some (.int 1000000000000000000000000000001) := by simp
      simp only [← o_add (μ := μ)] at a4
      simp [-o_add, hdS, dropS, B_law, szL, pow30, p1, a4]
    have s7 : Mi.ex (hdS (dropS 7 B_law)) [.d (.scr ns), f1, f2, f3, f4, f5, f6, f7, f8, .d W0, .d C0, .d (.lst M4), .un] μ = some (.nx, [.d (.scr ns), f1, f2, f3, f4, f5, f6, f7, f8, .d W0, .d C0, .d (.lst M5), .un], μ) := by
      unfold L6 at a5
      simp only [← o_add (μ := μ)] at a5
      simp [-o_add, hdS, dropS, B_law, szL, a5]
    have hc2 := hc [.d (.scr ns), f1, f2, f3, f4, f5, .un, f7, f8, .d W0, .d C0, .d (.lst M5), .un] rfl
    have s8 : fin (exs (dropS 8 B_law) [.d (.scr ns), f1, f2, f3, f4, f5, f6, f7, f8, .d W0, .d C0, .d (.lst M5), .un] μ) = some (.ok (.bl true), μ) := by
      simp [dropS, B_law, szL, kcomp, wipeS, hc2, eq_lnil (μ := μ) (xs := []) rfl]
    have st : ∀ k δ, exs (.cons (hdS (dropS k B_law)) (dropS (k + 1) B_law)) δ μ = Ev.thenS (Mi.ex (hdS (dropS k B_law)) δ μ) (exs (dropS (k + 1) B_law)) := fun k δ => x_cons
    have t1 : ∀ δ, exs (dropS 1 B_law) δ μ = _ := st 1
    have t2 : ∀ δ, exs (dropS 2 B_law) δ μ = _ := st 2
    have t3 : ∀ δ, exs (dropS 3 B_law) δ μ = _ := st 3
    have t4 : ∀ δ, exs (dropS 4 B_law) δ μ = _ := st 4
    have t5 : ∀ δ, exs (dropS 5 B_law) δ μ = _ := st 5
    have t6 : ∀ δ, exs (dropS 6 B_law) δ μ = _ := st 6
    have t7 : ∀ δ, exs (dropS 7 B_law) δ μ = _ := st 7
    rw [t1, s1, tS_nx, t2, s2, tS_nx, t3, s3, tS_nx, t4, s4, tS_nx, t5, s5, tS_nx, t6, s6, tS_nx, t7, s7, tS_nx, s8]
  refine ⟨μ, ?_⟩
  rw [← tail]
  simp [bodyK, B_law] at e
  have hB : B_law = .cons (.for_ (.name 1) (.rng (.bi .max (.cons (.con (.int (4))) (.cons (.bi .min (.cons (.con (.int (9))) (.cons (.bi .len (.cons (.var 0) .nil)) .nil))) .nil)))) bodyK) (dropS 1 B_law) := rfl
  have e' : forL (.name 1) (exs bodyK) ((List.range m).map fun (i : Nat) => D.int i) [.d (.scr ns), .un, .un, .un, .un, .un, .un, .un, .un, .un, .un, .un, .un] [] = some (.nx, [.d (.scr ns), f1, f2, f3, f4, f5, f6, f7, f8, .un, .un, .un, .un], μ) := e
  have hg := go (np := 1) (ns := 13) (b := B_law) (xs := [D.scr ns]) (μ := []) rfl
  unfold Flaw
  rw [hg]
  clear hg
  generalize dropS 1 B_law = BT at *
  rw [hB]
  generalize bodyK = BK at *
  simp [hm, hrg, hok, x_kfor, e']
end K01
theorem PySem.Challenge.cw_allcards_k01_boards_decks_and_patterns_r_holds : PySem.Challenge.rw_allcards_k01_boards_decks_and_patterns_r.Holds :=
  K01.hold fun ns h _ => K01.hF ns h
