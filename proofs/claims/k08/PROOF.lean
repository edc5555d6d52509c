import PyProof.Rows.All
import Wide.All
import OpenK.AllK
import Wide.FinOn
import HandS.ForMost
import HandS.Flow
import HandS.IsInst
import HandS.Defaults
import HandS.Exc
import HandS.TupAny
import HandS.TupMul
import PyProof.ReprRoads
import KE.SortData
import HandS.Dict
import HandS.Deep
import HandS.Text
import KE.KDictDisplayH
import KE.KDictCopyH
import PyProof.StrBlock2
import PyProof.ListStr
import PyProof.TupleOfStr
import HandS.RaiseMore
import HandS.Style
import HandS.SetBool
import HandS.Strs
import KE.DataFind
import HandS.More
import KE.GoesNew
import KE.GoesEnumKw
import HandS.Ends
import HandS.ExcCtx
import HandS.Hot
import HandS.FStr
import HandS.ExcInit
import HandS.ExcIs
import HandS.ExcField
import KE.KExcInit
import HandS.SetFor
import PyProof.Rows.SortShellAny
import HandS.DictComp
import HandS.WordsDict
import HandS.MakeKwOnly
import PyProof.ListRange
import HandS.Conv
import PyProof.Rows.Range3
import KE.KExcIs
import OpenK.KMake
import PyProof.InstNe
import KE.KExcStr
import PyProof.CallStr
import OpenK.KOps
import HandS.TryMany
import KE.KTryMore
import HandS.NoneIn
import KE.KUnpackStar
import HandS.Words
import HandS.HeadHook1
import KE.KStateDown
import HandS.Head0
import HandS.Head1
import HandS.Head2
import HandS.HeadHook2
import PySem.Challenge.RW_lastcoat_k08_pictures_and_wishes_of_any
set_option linter.all false
/-! GU: rows of texts put in order, each once. -/
namespace G
def insU (x : List Nat) : List (List Nat) → List (List Nat)
  | [] => [x]
  | y :: r => if x < y then x :: y :: r else if y < x then y :: insU x r else y :: r
def sortU (l : List (List Nat)) : List (List Nat) := l.foldr insU []
theorem tx_tri {a b : List Nat} (h1 : ¬ a < b) (h2 : ¬ b < a) : a = b := List.le_antisymm (List.not_lt.mp h2) (List.not_lt.mp h1)
theorem mem_insU {x z : List Nat} : ∀ {l : List (List Nat)}, z ∈ insU x l ↔ z = x ∨ z ∈ l
  | [] => by simp [insU]
  | y :: r => by
    unfold insU
    split
    · simp
    · split
      · rw [List.mem_cons, mem_insU (l := r), List.mem_cons]
        constructor
        · rintro (h | h | h) <;> simp [h]
        · rintro (h | h | h) <;> simp [h]
      · rename_i h1 h2
        have e := tx_tri h1 h2
        subst e
        simp
theorem insU_up {x : List Nat} : ∀ {l : List (List Nat)}, l.Pairwise (· < ·) → (insU x l).Pairwise (· < ·)
  | [], _ => by simp [insU]
  | y :: r, h => by
    unfold insU
    rw [List.pairwise_cons] at h
    split
    · rename_i h1
      rw [List.pairwise_cons, List.pairwise_cons]
      refine ⟨fun z hz => ?_, h⟩
      rcases List.mem_cons.mp hz with rfl | hz
      · exact h1
      · exact List.lt_trans h1 (h.1 z hz)
    · split
      · rename_i h1 h2
        rw [List.pairwise_cons]
        refine ⟨fun z hz => ?_, insU_up h.2⟩
        rcases mem_insU.mp hz with rfl | hz
        · exact h2
        · exact h.1 z hz
      · rw [List.pairwise_cons]; exact h
theorem mem_sortU {z : List Nat} : ∀ {l : List (List Nat)}, z ∈ sortU l ↔ z ∈ l
  | [] => by simp [sortU]
  | y :: r => by
    have := mem_sortU (z := z) (l := r)
    unfold sortU at this ⊢
    rw [List.foldr_cons, mem_insU, this, List.mem_cons]
theorem sortU_up : ∀ (l : List (List Nat)), (sortU l).Pairwise (· < ·)
  | [] => List.Pairwise.nil
  | y :: r => insU_up (sortU_up r)
theorem up_eq : ∀ {a b : List (List Nat)}, a.Pairwise (· < ·) → b.Pairwise (· < ·) → (∀ x, x ∈ a ↔ x ∈ b) → a = b
  | [], [], _, _, _ => rfl
  | [], y :: b, _, _, h => by have := (h y).mpr (by simp); cases this
  | x :: a, [], _, _, h => by have := (h x).mp (by simp); cases this
  | x :: a, y :: b, ha, hb, h => by
    rw [List.pairwise_cons] at ha hb
    have e : x = y := by
      rcases List.mem_cons.mp ((h x).mp (by simp)) with e | hx
      · exact e
      · rcases List.mem_cons.mp ((h y).mpr (by simp)) with e | hy
        · exact e.symm
        · exact absurd (List.lt_trans (hb.1 x hx) (ha.1 y hy)) (List.lt_irrefl _)
    subst e
    congr 1
    refine up_eq ha.2 hb.2 fun z => ⟨fun hz => ?_, fun hz => ?_⟩
    · rcases List.mem_cons.mp ((h z).mp (by simp [hz])) with e | hz'
      · subst e; exact absurd (ha.1 _ hz) (List.lt_irrefl _)
      · exact hz'
    · rcases List.mem_cons.mp ((h z).mpr (by simp [hz])) with e | hz'
      · subst e; exact absurd (hb.1 _ hz) (List.lt_irrefl _)
      · exact hz'
/-! ints put in order, each once -/
def insI (x : Int) : List Int → List Int
  | [] => [x]
  | y :: r => if x < y then x :: y :: r else if y < x then y :: insI x r else y :: r
def sortI (l : List Int) : List Int := l.foldr insI []
theorem mem_insI {x z : Int} : ∀ {l : List Int}, z ∈ insI x l ↔ z = x ∨ z ∈ l
  | [] => by simp [insI]
  | y :: r => by
    unfold insI
    split
    · simp
    · split
      · rw [List.mem_cons, mem_insI (l := r), List.mem_cons]
        constructor
        · rintro (h | h | h) <;> simp [h]
        · rintro (h | h | h) <;> simp [h]
      · have e : x = y := by omega
        subst e
        simp
theorem insI_up {x : Int} : ∀ {l : List Int}, l.Pairwise (· < ·) → (insI x l).Pairwise (· < ·)
  | [], _ => by simp [insI]
  | y :: r, h => by
    unfold insI
    rw [List.pairwise_cons] at h
    split
    · rename_i h1
      rw [List.pairwise_cons, List.pairwise_cons]
      refine ⟨fun z hz => ?_, h⟩
      rcases List.mem_cons.mp hz with rfl | hz
      · exact h1
      · have := h.1 z hz; omega
    · split
      · rename_i h1 h2
        rw [List.pairwise_cons]
        refine ⟨fun z hz => ?_, insI_up h.2⟩
        rcases mem_insI.mp hz with rfl | hz
        · exact h2
        · exact h.1 z hz
      · rw [List.pairwise_cons]; exact h
theorem mem_sortI {z : Int} : ∀ {l : List Int}, z ∈ sortI l ↔ z ∈ l
  | [] => by simp [sortI]
  | y :: r => by
    have := mem_sortI (z := z) (l := r)
    unfold sortI at this ⊢
    rw [List.foldr_cons, mem_insI, this, List.mem_cons]
theorem sortI_up : ∀ (l : List Int), (sortI l).Pairwise (· < ·)
  | [] => List.Pairwise.nil
  | y :: r => insI_up (sortI_up r)
/-- ints that can be put in order, each once -/
def smI (l : List Int) : Prop := l.length < 4000 ∧ (sortI l).length < 64
theorem upI_eq : ∀ {a b : List Int}, a.Pairwise (· < ·) → b.Pairwise (· < ·) → (∀ x, x ∈ a ↔ x ∈ b) → a = b
  | [], [], _, _, _ => rfl
  | [], y :: b, _, _, h => by have := (h y).mpr (by simp); cases this
  | x :: a, [], _, _, h => by have := (h x).mp (by simp); cases this
  | x :: a, y :: b, ha, hb, h => by
    rw [List.pairwise_cons] at ha hb
    have e : x = y := by
      rcases List.mem_cons.mp ((h x).mp (by simp)) with e | hx
      · exact e
      · rcases List.mem_cons.mp ((h y).mpr (by simp)) with e | hy
        · exact e.symm
        · have h1 := hb.1 x hx
          have h2 := ha.1 y hy
          omega
    subst e
    rw [upI_eq ha.2 hb.2 fun z => ?_]
    constructor
    · intro hz
      rcases List.mem_cons.mp ((h z).mp (List.mem_cons_of_mem _ hz)) with e | hz'
      · subst e; have := ha.1 z hz; omega
      · exact hz'
    · intro hz
      rcases List.mem_cons.mp ((h z).mpr (List.mem_cons_of_mem _ hz)) with e | hz'
      · subst e; have := hb.1 z hz; omega
      · exact hz'
end G
set_option Elab.async false
set_option linter.all false
set_option maxRecDepth 100000
set_option maxHeartbeats 4000000
/-! G0: plain data, the store of changing objects, and how they stand in the abstract heap. -/
namespace G
open PySem L2
/-- plain data: tuples and lists that never change any more are written out; what may change is named by its address -/
inductive D where
  | non | bl (b : Bool) | int (i : Int) | str (s : List Nat) | tup (xs : List D) | lst (xs : List D) | lsk (xs : List D) | obj (a : Addr) | ty (n : String) | gl (x : Str)
  | ins (C : Str) (ns : List Str) (vs : List D) | dct (ks vs : List D) | exn (C : Str) (ns : List Str) (vs : List D)
/-- what stands at an address that may change -/
inductive O where
  | lst (xs : List D) | ins (C : Str) (fs : List (Str × D)) | dct (kvs : List (D × D))
abbrev Sto := Addr → Option O
def Sto.set (S : Sto) (a : Addr) (o : O) : Sto := fun b => if b = a then some o else S b
theorem Sto.set_same {S : Sto} {a : Addr} {o : O} : S.set a o a = some o := by unfold Sto.set; rw [if_pos rfl]
theorem Sto.set_ne {S : Sto} {a b : Addr} {o : O} (h : b ≠ a) : S.set a o b = S b := by unfold Sto.set; rw [if_neg h]
structure Exn where
  cls : Str
  ns : List Str
  vs : List D
/-- an exception that was caught: at a, of the class at c, its dict -/
def exT (a c : Addr) (d : Option Addr) : HO := .ext fun h => ∃ oe vs, h.get? a = some oe ∧ oe.cls = .ref c ∧ oe.dict = d ∧ oe.data = .fields vs ∧ vs[2]? = some .none
def KT (K : PySem.W.Frag) (a : Addr) (xs : List V) : Prop :=
  ∃ (o : Obj) (its : Array Value) (n : Nat), K.lookup a = some o ∧ o.cls = .type "tuple" ∧ o.data = .seq its n ∧ its.size ≤ sizeLine ∧ Vals xs its.toList
def KL (K : PySem.W.Frag) (a : Addr) (xs : List V) : Prop :=
  ∃ (o : Obj) (its : Array Value) (n : Nat), K.lookup a = some o ∧ o.cls = .type "list" ∧ o.dict = none ∧ o.data = .seq its n ∧ its.size ≤ sizeLine ∧ Vals xs its.toList
abbrev mkS (s : List Nat) : Str := ⟨s.toArray⟩
/-- where we stand: the written part, the module's names, lists that comprehensions are making -/
structure Gx where
  K : PySem.W.Frag
  mg : Str → Option Value
  B : List Addr
def toKey : D → Option Key
  | .int i => some (.inl i)
  | .str s => some (.inr (mkS s))
  | _ => none
section
variable (g : Gx) (S : Sto) (H : Hp)
mutual
def RD : D → V → Prop
  | .non, v => v = .non
  | .bl b, v => v = .bl b
  | .int i, v => v = .int i
  | .str s, v => v = .str (mkS s) ∧ ∀ c ∈ s, c < 0x110000
  | .tup xs, v => ∃ a vs, v = .ref a ∧ ((S a = none ∧ a ∉ g.B ∧ Rd H a (.tup vs)) ∨ KT g.K a vs) ∧ RDs xs vs
  | .lst xs, v => ∃ a vs, v = .ref a ∧ S a = none ∧ a ∉ g.B ∧ Rd H a (.lst vs) ∧ RDs xs vs
  | .lsk xs, v => ∃ a vs, v = .ref a ∧ ((S a = none ∧ a ∉ g.B ∧ Rd H a (.lst vs)) ∨ KL g.K a vs) ∧ RDs xs vs
  | .obj a, v => v = .ref a
  | .ty n, v => v = .ty n
  | .gl x, v => ∃ a, v = .ref a ∧ g.mg x = some (.ref a)
  | .ins C ns ds, v => ∃ (a c dx : Addr) (vs : List V), v = .ref a ∧ (S a = none ∧ a ∉ g.B ∧ H a = some (.ins c dx (ns.zip vs))) ∧ (S dx = none ∧ dx ∉ g.B ∧ H dx = some (.own a)) ∧ g.mg C = some (.ref c) ∧ ns.length = ds.length ∧ RDs ds vs
  | .dct ks ds, v => ∃ (a : Addr) (qs : List Key) (vs : List V), v = .ref a ∧ (S a = none ∧ a ∉ g.B ∧ H a = some (.dK (qs.zip vs))) ∧ ks.map toKey = qs.map some ∧ ks.length = ds.length ∧ RDs ds vs
  | .exn C ns ds, v => ∃ (a c : Addr) (d : Option Addr) (vs : List V), v = .ref a ∧ (S a = none ∧ a ∉ g.B ∧ H a = some (exT a c d)) ∧ g.mg C = some (.ref c) ∧ ns.length = ds.length ∧ RDs ds vs ∧ ((ns = [] ∧ d = none) ∨ ∃ dx, d = some dx ∧ S dx = none ∧ dx ∉ g.B ∧ H dx = some (.xd (ns.zip vs)))
def RDs : List D → List V → Prop
  | [], vs => vs = []
  | d :: ds, vs => ∃ v r, vs = v :: r ∧ RD d v ∧ RDs ds r
end
def RFs : List (Str × D) → List (Str × V) → Prop
  | [], gs => gs = []
  | (x, d) :: fs, gs => ∃ v r, gs = (x, v) :: r ∧ RD g S H d v ∧ RFs fs r
def RKs : List (D × D) → List (Key × V) → Prop
  | [], gs => gs = []
  | (k, d) :: fs, gs => ∃ q v r, gs = (q, v) :: r ∧ toKey k = some q ∧ RD g S H d v ∧ RKs fs r
def RO (a : Addr) : O → Prop
  | .lst xs => ∃ vs, H a = some (.lst vs) ∧ RDs g S H xs vs
  | .ins C fs => ∃ c dx gs, g.mg C = some (.ref c) ∧ H a = some (.ins c dx gs) ∧ (S dx = none ∧ dx ∉ g.B) ∧ H dx = some (.own a) ∧ RFs g S H fs gs
  | .dct kvs => ∃ gs, H a = some (.dK gs) ∧ RKs g S H kvs gs
/-- the store stands in the heap -/
def RS : Prop := (∀ a o, S a = some o → a ∉ g.B ∧ RO g S H a o) ∧ ∀ b ∈ g.B, S b = none ∧ ∃ o, H b = some o
def RX (e : Exn) (c : Value) (d : Option Addr) : Prop :=
  ∃ C vs, g.mg e.cls = some (.ref C) ∧ c = .ref C ∧ e.ns.length = e.vs.length ∧ RDs g S H e.vs vs ∧ ((e.ns = [] ∧ d = none) ∨ ∃ dx, d = some dx ∧ S dx = none ∧ dx ∉ g.B ∧ H dx = some (.xd (e.ns.zip vs)))
end
/-- all that is tracked and may not change stays -/
def Step (S : Sto) (H : Hp) (S' : Sto) (H' : Hp) : Prop := ∀ a o, H a = some o → S a = none → H' a = some o ∧ S' a = none
theorem Step.refl (S : Sto) (H : Hp) : Step S H S H := fun _ _ h k => ⟨h, k⟩
theorem Step.trans {S S1 S2 : Sto} {H H1 H2 : Hp} (a : Step S H S1 H1) (b : Step S1 H1 S2 H2) : Step S H S2 H2 := fun x o h k =>
  let ⟨h1, k1⟩ := a x o h k
  b x o h1 k1
section
variable {g : Gx} {S S' : Sto} {H H' : Hp}
theorem Step.rd (st : Step S H S' H') {a : Addr} {u : HO} (k : S a = none) (h : Rd H a u) : S' a = none ∧ Rd H' a u := by
  rcases h with h | ⟨o, h⟩
  · exact ⟨(st _ _ h k).2, .inl (st _ _ h k).1⟩
  · exact ⟨(st _ _ h k).2, .inr ⟨o, (st _ _ h k).1⟩⟩
mutual
theorem RD.mono (st : Step S H S' H') : ∀ (d : D) (v : V), RD g S H d v → RD g S' H' d v
  | .non, v, h => by unfold RD at *; exact h
  | .bl b, v, h => by unfold RD at *; exact h
  | .int i, v, h => by unfold RD at *; exact h
  | .str s, v, h => by unfold RD at *; exact h
  | .tup xs, v, h => by
    unfold RD at *
    obtain ⟨a, vs, e, k, r⟩ := h
    refine ⟨a, vs, e, ?_, RDs.mono st xs vs r⟩
    rcases k with ⟨k, nb, q⟩ | k
    · exact .inl ⟨(st.rd k q).1, nb, (st.rd k q).2⟩
    · exact .inr k
  | .lst xs, v, h => by
    unfold RD at *
    obtain ⟨a, vs, e, k, nb, q, r⟩ := h
    exact ⟨a, vs, e, (st.rd k q).1, nb, (st.rd k q).2, RDs.mono st xs vs r⟩
  | .lsk xs, v, h => by
    unfold RD at *
    obtain ⟨a, vs, e, k, r⟩ := h
    refine ⟨a, vs, e, ?_, RDs.mono st xs vs r⟩
    rcases k with ⟨k, nb, q⟩ | k
    · exact .inl ⟨(st.rd k q).1, nb, (st.rd k q).2⟩
    · exact .inr k
  | .obj a, v, h => by unfold RD at *; exact h
  | .ty n, v, h => by unfold RD at *; exact h
  | .gl x, v, h => by unfold RD at *; exact h
  | .ins C ns ds, v, h => by
    unfold RD at *
    obtain ⟨a, c, dx, vs, e, ⟨k, nb, q⟩, ⟨k', nb', q'⟩, m, l, r⟩ := h
    exact ⟨a, c, dx, vs, e, ⟨(st a _ q k).2, nb, (st a _ q k).1⟩, ⟨(st dx _ q' k').2, nb', (st dx _ q' k').1⟩, m, l, RDs.mono st ds vs r⟩
  | .dct ks ds, v, h => by
    unfold RD at *
    obtain ⟨a, qs, vs, e, ⟨k, nb, q⟩, m, l, r⟩ := h
    exact ⟨a, qs, vs, e, ⟨(st a _ q k).2, nb, (st a _ q k).1⟩, m, l, RDs.mono st ds vs r⟩
  | .exn C ns ds, v, h => by
    unfold RD at *
    obtain ⟨a, c, d, vs, e, ⟨k, nb, q⟩, m, l, r, z⟩ := h
    refine ⟨a, c, d, vs, e, ⟨(st a _ q k).2, nb, (st a _ q k).1⟩, m, l, RDs.mono st ds vs r, ?_⟩
    rcases z with z | ⟨dx, e1, k1, n1, q1⟩
    · exact .inl z
    · exact .inr ⟨dx, e1, (st dx _ q1 k1).2, n1, (st dx _ q1 k1).1⟩
theorem RDs.mono (st : Step S H S' H') : ∀ (ds : List D) (vs : List V), RDs g S H ds vs → RDs g S' H' ds vs
  | [], vs, h => by unfold RDs at *; exact h
  | d :: ds, vs, h => by
    unfold RDs at *
    obtain ⟨v, r, e, h1, h2⟩ := h
    exact ⟨v, r, e, RD.mono st d v h1, RDs.mono st ds r h2⟩
end
theorem RFs.mono (st : Step S H S' H') : ∀ {fs : List (Str × D)} {gs : List (Str × V)}, RFs g S H fs gs → RFs g S' H' fs gs
  | [], _, h => h
  | (x, d) :: fs, _, ⟨v, r, e, h1, h2⟩ => ⟨v, r, e, h1.mono st, RFs.mono st h2⟩
theorem RKs.mono (st : Step S H S' H') : ∀ {fs : List (D × D)} {gs : List (Key × V)}, RKs g S H fs gs → RKs g S' H' fs gs
  | [], _, h => h
  | (x, d) :: fs, _, ⟨q, v, r, e, k, h1, h2⟩ => ⟨q, v, r, e, k, h1.mono st, RKs.mono st h2⟩
theorem RDs.length : ∀ {ds : List D} {vs : List V}, RDs g S H ds vs → ds.length = vs.length
  | [], vs, h => by unfold RDs at h; subst h; rfl
  | d :: ds, vs, h => by
    unfold RDs at h
    obtain ⟨v, r, e, _, h2⟩ := h
    subst e
    simp [RDs.length h2]
theorem RDs.nil : RDs g S H [] [] := by unfold RDs; rfl
theorem RDs.cons {d : D} {v : V} {ds : List D} {vs : List V} (h : RD g S H d v) (r : RDs g S H ds vs) : RDs g S H (d :: ds) (v :: vs) := by
  unfold RDs; exact ⟨v, vs, rfl, h, r⟩
theorem RDs.append : ∀ {ds es : List D} {vs us : List V}, RDs g S H ds vs → RDs g S H es us → RDs g S H (ds ++ es) (vs ++ us)
  | [], es, vs, us, h, k => by unfold RDs at h; subst h; exact k
  | d :: ds, es, vs, us, h, k => by
    unfold RDs at h
    obtain ⟨v, r, e, h1, h2⟩ := h
    subst e
    exact RDs.cons h1 (RDs.append h2 k)
theorem RDs.get : ∀ {ds : List D} {vs : List V}, RDs g S H ds vs → ∀ (i : Nat) (d : D), ds[i]? = some d → ∃ v, vs[i]? = some v ∧ RD g S H d v
  | [], vs, h, i, d, e => by simp at e
  | d0 :: ds, vs, h, i, d, e => by
    unfold RDs at h
    obtain ⟨v, r, e0, h1, h2⟩ := h
    subst e0
    cases i with
    | zero => simp at e; subst e; exact ⟨v, by simp, h1⟩
    | succ i => simpa using RDs.get h2 i d (by simpa using e)
theorem RDs.get' : ∀ {ds : List D} {vs : List V}, RDs g S H ds vs → ∀ (i : Nat) (v : V), vs[i]? = some v → ∃ d, ds[i]? = some d ∧ RD g S H d v
  | [], vs, h, i, v, e => by unfold RDs at h; subst h; simp at e
  | d0 :: ds, vs, h, i, v, e => by
    unfold RDs at h
    obtain ⟨v0, r, e0, h1, h2⟩ := h
    subst e0
    cases i with
    | zero => simp at e; subst e; exact ⟨d0, by simp, h1⟩
    | succ i => simpa using RDs.get' h2 i v (by simpa using e)
theorem RDs.drop : ∀ {ds : List D} {vs : List V} (n : Nat), RDs g S H ds vs → RDs g S H (ds.drop n) (vs.drop n)
  | ds, vs, 0, h => by simpa using h
  | [], vs, n + 1, h => by unfold RDs at h; subst h; simp; exact RDs.nil
  | d :: ds, vs, n + 1, h => by
    unfold RDs at h
    obtain ⟨v, r, e, h1, h2⟩ := h
    subst e
    simpa using RDs.drop n h2
theorem RDs.take : ∀ {ds : List D} {vs : List V} (n : Nat), RDs g S H ds vs → RDs g S H (ds.take n) (vs.take n)
  | ds, vs, 0, h => by simp; exact RDs.nil
  | [], vs, n + 1, h => by unfold RDs at h; subst h; simp; exact RDs.nil
  | d :: ds, vs, n + 1, h => by
    unfold RDs at h
    obtain ⟨v, r, e, h1, h2⟩ := h
    subst e
    simpa using RDs.cons h1 (RDs.take n h2)
theorem RDs.set : ∀ {ds : List D} {vs : List V} (n : Nat) {d : D} {v : V}, RDs g S H ds vs → RD g S H d v → RDs g S H (ds.set n d) (vs.set n v)
  | [], vs, n, _, _, h, _ => by unfold RDs at h; subst h; simp; exact RDs.nil
  | d0 :: ds, vs, n, d, v, h, k => by
    unfold RDs at h
    obtain ⟨v0, r, e, h1, h2⟩ := h
    subst e
    cases n with
    | zero => simpa using RDs.cons k h2
    | succ n => simpa using RDs.cons h1 (RDs.set n h2 k)
theorem RDs.all {p : D → Prop} {q : V → Prop} (f : ∀ d v, RD g S H d v → p d → q v) : ∀ {ds : List D} {vs : List V}, RDs g S H ds vs → (∀ d ∈ ds, p d) → ∀ v ∈ vs, q v
  | [], vs, h, _ => by unfold RDs at h; subst h; simp
  | d :: ds, vs, h, hp => by
    unfold RDs at h
    obtain ⟨v, r, e, h1, h2⟩ := h
    subst e
    intro u hu
    rcases List.mem_cons.mp hu with rfl | hu
    · exact f d _ h1 (hp d (by simp))
    · exact RDs.all f h2 (fun d hd => hp d (by simp [hd])) u hu
/-! ### the store along a step -/
theorem RS.fresh (rs : RS g S H) {p : Addr} (hp : H p = none) : p ∉ g.B := fun hb => by
  obtain ⟨_, o, e⟩ := rs.2 p hb
  rw [hp] at e
  cases e
theorem RS.gho (rs : RS g S H) (st : Step S H S' H') : ∀ b ∈ g.B, S' b = none ∧ ∃ o, H' b = some o := fun b hb => by
  obtain ⟨k, o, e⟩ := rs.2 b hb
  obtain ⟨e', k'⟩ := st b o e k
  exact ⟨k', o, e'⟩
theorem RS.frozen (rs : RS g S H) {p : Addr} {o : HO} (hp : H p = none) : RS g S (upd H p o) ∧ Step S H S (upd H p o) := by
  have st : Step S H S (upd H p o) := fun a u h k => ⟨by rw [upd_ne (ne_of_none h hp)]; exact h, k⟩
  refine ⟨⟨fun a x hx => ⟨(rs.1 a x hx).1, ?_⟩, rs.gho st⟩, st⟩
  have q := (rs.1 a x hx).2
  cases x with
  | lst xs => obtain ⟨vs, h, r⟩ := q; exact ⟨vs, by rw [upd_ne (ne_of_none h hp)]; exact h, r.mono st⟩
  | ins C fs => obtain ⟨c, dx, gs, m, h, k, o1, r⟩ := q; exact ⟨c, dx, gs, m, by rw [upd_ne (ne_of_none h hp)]; exact h, k, by rw [upd_ne (ne_of_none o1 hp)]; exact o1, r.mono st⟩
  | dct kvs => obtain ⟨gs, h, r⟩ := q; exact ⟨gs, by rw [upd_ne (ne_of_none h hp)]; exact h, r.mono st⟩
theorem RS.free (rs : RS g S H) {p : Addr} (hp : H p = none) : S p = none := by
  cases e : S p with
  | none => rfl
  | some o =>
    have q := (rs.1 p o e).2
    cases o with
    | lst xs => obtain ⟨vs, h, _⟩ := q; rw [hp] at h; cases h
    | ins C fs => obtain ⟨c, dx, gs, _, h, _⟩ := q; rw [hp] at h; cases h
    | dct kvs => obtain ⟨gs, h, _⟩ := q; rw [hp] at h; cases h
/-- what stands at a: only its own description is asked anew -/
theorem RS.write (rs : RS g S H) {a : Addr} {o : O} {u : HO} (hs : S a ≠ none ∨ H a = none) (st : Step S H (S.set a o) (upd H a u)) (new : RO g (S.set a o) (upd H a u) a o)
    (hu : ∀ b, H a ≠ some (.own b)) : RS g (S.set a o) (upd H a u) := by
  have na : a ∉ g.B := fun hb => by
    obtain ⟨k, o', e⟩ := rs.2 a hb
    rcases hs with z | z
    · exact z k
    · rw [z] at e; cases e
  refine ⟨fun b x hx => ?_, rs.gho st⟩
  by_cases hb : b = a
  · subst hb
    rw [Sto.set_same] at hx
    cases hx
    exact ⟨na, new⟩
  · rw [Sto.set_ne hb] at hx
    refine ⟨(rs.1 b x hx).1, ?_⟩
    have q := (rs.1 b x hx).2
    cases x with
    | lst xs => obtain ⟨vs, h, r⟩ := q; exact ⟨vs, by rw [upd_ne hb]; exact h, r.mono st⟩
    | ins C fs =>
      obtain ⟨c, dx, gs, m, h, k, o1, r⟩ := q
      have nd : dx ≠ a := fun e => by subst e; exact hu _ o1
      exact ⟨c, dx, gs, m, by rw [upd_ne hb]; exact h, ⟨by rw [Sto.set_ne nd]; exact k.1, k.2⟩, by rw [upd_ne nd]; exact o1, r.mono st⟩
    | dct kvs => obtain ⟨gs, h, r⟩ := q; exact ⟨gs, by rw [upd_ne hb]; exact h, r.mono st⟩
theorem Step.write {a : Addr} {o : O} {u : HO} (hs : S a ≠ none ∨ H a = none) : Step S H (S.set a o) (upd H a u) := fun b x h k => by
  have hb : b ≠ a := by
    rintro rfl
    rcases hs with z | z
    · exact z k
    · rw [h] at z; cases z
  exact ⟨by rw [upd_ne hb]; exact h, by rw [Sto.set_ne hb]; exact k⟩
/-! ### a list that is being made -/
def Gx.busy (g : Gx) (p : Addr) : Gx := { g with B := p :: g.B }
mutual
theorem RD.busy {p : Addr} {u : HO} (hp : H p = none) : ∀ (d : D) (v : V), RD g S H d v → RD (g.busy p) S (upd H p u) d v
  | .non, v, h => by unfold RD at *; exact h
  | .bl b, v, h => by unfold RD at *; exact h
  | .int i, v, h => by unfold RD at *; exact h
  | .str s, v, h => by unfold RD at *; exact h
  | .tup xs, v, h => by
    unfold RD at *
    obtain ⟨a, vs, e, k, r⟩ := h
    refine ⟨a, vs, e, ?_, RDs.busy hp xs vs r⟩
    rcases k with ⟨k, nb, q⟩ | k
    · have ne : a ≠ p := by rcases q with q | ⟨o, q⟩ <;> exact ne_of_none q hp
      exact .inl ⟨k, fun z => (List.mem_cons.mp z).elim ne nb, by rcases q with q | ⟨o, q⟩; exact .inl (by rw [upd_ne ne]; exact q); exact .inr ⟨o, by rw [upd_ne ne]; exact q⟩⟩
    · exact .inr k
  | .lst xs, v, h => by
    unfold RD at *
    obtain ⟨a, vs, e, k, nb, q, r⟩ := h
    have ne : a ≠ p := by rcases q with q | ⟨o, q⟩ <;> exact ne_of_none q hp
    exact ⟨a, vs, e, k, fun z => (List.mem_cons.mp z).elim ne nb, by rcases q with q | ⟨o, q⟩; exact .inl (by rw [upd_ne ne]; exact q); exact .inr ⟨o, by rw [upd_ne ne]; exact q⟩, RDs.busy hp xs vs r⟩
  | .lsk xs, v, h => by
    unfold RD at *
    obtain ⟨a, vs, e, k, r⟩ := h
    refine ⟨a, vs, e, ?_, RDs.busy hp xs vs r⟩
    rcases k with ⟨k, nb, q⟩ | k
    · have ne : a ≠ p := by rcases q with q | ⟨o, q⟩ <;> exact ne_of_none q hp
      exact .inl ⟨k, fun z => (List.mem_cons.mp z).elim ne nb, by rcases q with q | ⟨o, q⟩; exact .inl (by rw [upd_ne ne]; exact q); exact .inr ⟨o, by rw [upd_ne ne]; exact q⟩⟩
    · exact .inr k
  | .obj a, v, h => by unfold RD at *; exact h
  | .ty n, v, h => by unfold RD at *; exact h
  | .gl x, v, h => by unfold RD at *; exact h
  | .ins C ns ds, v, h => by
    unfold RD at *
    obtain ⟨a, c, dx, vs, e, ⟨k, nb, q⟩, ⟨k', nb', q'⟩, m, l, r⟩ := h
    have ne : a ≠ p := ne_of_none q hp
    have ne' : dx ≠ p := ne_of_none q' hp
    exact ⟨a, c, dx, vs, e, ⟨k, fun z => (List.mem_cons.mp z).elim ne nb, by rw [upd_ne ne]; exact q⟩, ⟨k', fun z => (List.mem_cons.mp z).elim ne' nb', by rw [upd_ne ne']; exact q'⟩, m, l, RDs.busy hp ds vs r⟩
  | .dct ks ds, v, h => by
    unfold RD at *
    obtain ⟨a, qs, vs, e, ⟨k, nb, q⟩, m, l, r⟩ := h
    have ne : a ≠ p := ne_of_none q hp
    exact ⟨a, qs, vs, e, ⟨k, fun z => (List.mem_cons.mp z).elim ne nb, by rw [upd_ne ne]; exact q⟩, m, l, RDs.busy hp ds vs r⟩
  | .exn C ns ds, v, h => by
    unfold RD at *
    obtain ⟨a, c, d, vs, e, ⟨k, nb, q⟩, m, l, r, z⟩ := h
    have ne : a ≠ p := ne_of_none q hp
    refine ⟨a, c, d, vs, e, ⟨k, fun z => (List.mem_cons.mp z).elim ne nb, by rw [upd_ne ne]; exact q⟩, m, l, RDs.busy hp ds vs r, ?_⟩
    rcases z with z | ⟨dx, e1, k1, n1, q1⟩
    · exact .inl z
    · exact .inr ⟨dx, e1, k1, fun z => (List.mem_cons.mp z).elim (ne_of_none q1 hp) n1, by rw [upd_ne (ne_of_none q1 hp)]; exact q1⟩
theorem RDs.busy {p : Addr} {u : HO} (hp : H p = none) : ∀ (ds : List D) (vs : List V), RDs g S H ds vs → RDs (g.busy p) S (upd H p u) ds vs
  | [], vs, h => by unfold RDs at *; exact h
  | d :: ds, vs, h => by
    unfold RDs at *
    obtain ⟨v, r, e, h1, h2⟩ := h
    exact ⟨v, r, e, RD.busy hp d v h1, RDs.busy hp ds r h2⟩
end
mutual
/-- the list being made changes: nothing else sees it -/
theorem RD.turn {p : Addr} {u : HO} : ∀ (d : D) (v : V), RD (g.busy p) S H d v → RD (g.busy p) S (upd H p u) d v
  | .non, v, h => by unfold RD at *; exact h
  | .bl b, v, h => by unfold RD at *; exact h
  | .int i, v, h => by unfold RD at *; exact h
  | .str s, v, h => by unfold RD at *; exact h
  | .tup xs, v, h => by
    unfold RD at *
    obtain ⟨a, vs, e, k, r⟩ := h
    refine ⟨a, vs, e, ?_, RDs.turn xs vs r⟩
    rcases k with ⟨k, nb, q⟩ | k
    · have ne : a ≠ p := fun z => nb (by rw [z]; exact List.mem_cons_self ..)
      exact .inl ⟨k, nb, by rcases q with q | ⟨o, q⟩; exact .inl (by rw [upd_ne ne]; exact q); exact .inr ⟨o, by rw [upd_ne ne]; exact q⟩⟩
    · exact .inr k
  | .lst xs, v, h => by
    unfold RD at *
    obtain ⟨a, vs, e, k, nb, q, r⟩ := h
    have ne : a ≠ p := fun z => nb (by rw [z]; exact List.mem_cons_self ..)
    exact ⟨a, vs, e, k, nb, by rcases q with q | ⟨o, q⟩; exact .inl (by rw [upd_ne ne]; exact q); exact .inr ⟨o, by rw [upd_ne ne]; exact q⟩, RDs.turn xs vs r⟩
  | .lsk xs, v, h => by
    unfold RD at *
    obtain ⟨a, vs, e, k, r⟩ := h
    refine ⟨a, vs, e, ?_, RDs.turn xs vs r⟩
    rcases k with ⟨k, nb, q⟩ | k
    · have ne : a ≠ p := fun z => nb (by rw [z]; exact List.mem_cons_self ..)
      exact .inl ⟨k, nb, by rcases q with q | ⟨o, q⟩; exact .inl (by rw [upd_ne ne]; exact q); exact .inr ⟨o, by rw [upd_ne ne]; exact q⟩⟩
    · exact .inr k
  | .obj a, v, h => by unfold RD at *; exact h
  | .ty n, v, h => by unfold RD at *; exact h
  | .gl x, v, h => by unfold RD at *; exact h
  | .ins C ns ds, v, h => by
    unfold RD at *
    obtain ⟨a, c, dx, vs, e, ⟨k, nb, q⟩, ⟨k', nb', q'⟩, m, l, r⟩ := h
    have ne : a ≠ p := fun z => nb (by rw [z]; exact List.mem_cons_self ..)
    have ne' : dx ≠ p := fun z => nb' (by rw [z]; exact List.mem_cons_self ..)
    exact ⟨a, c, dx, vs, e, ⟨k, nb, by rw [upd_ne ne]; exact q⟩, ⟨k', nb', by rw [upd_ne ne']; exact q'⟩, m, l, RDs.turn ds vs r⟩
  | .dct ks ds, v, h => by
    unfold RD at *
    obtain ⟨a, qs, vs, e, ⟨k, nb, q⟩, m, l, r⟩ := h
    have ne : a ≠ p := fun z => nb (by rw [z]; exact List.mem_cons_self ..)
    exact ⟨a, qs, vs, e, ⟨k, nb, by rw [upd_ne ne]; exact q⟩, m, l, RDs.turn ds vs r⟩
  | .exn C ns ds, v, h => by
    unfold RD at *
    obtain ⟨a, c, d, vs, e, ⟨k, nb, q⟩, m, l, r, z⟩ := h
    have ne : a ≠ p := fun z => nb (by rw [z]; exact List.mem_cons_self ..)
    refine ⟨a, c, d, vs, e, ⟨k, nb, by rw [upd_ne ne]; exact q⟩, m, l, RDs.turn ds vs r, ?_⟩
    rcases z with z | ⟨dx, e1, k1, n1, q1⟩
    · exact .inl z
    · exact .inr ⟨dx, e1, k1, n1, by rw [upd_ne (fun z => n1 (by rw [z]; exact List.mem_cons_self ..))]; exact q1⟩
theorem RDs.turn {p : Addr} {u : HO} : ∀ (ds : List D) (vs : List V), RDs (g.busy p) S H ds vs → RDs (g.busy p) S (upd H p u) ds vs
  | [], vs, h => by unfold RDs at *; exact h
  | d :: ds, vs, h => by
    unfold RDs at *
    obtain ⟨v, r, e, h1, h2⟩ := h
    exact ⟨v, r, e, RD.turn d v h1, RDs.turn ds r h2⟩
end
mutual
theorem RD.idle {p : Addr} : ∀ (d : D) (v : V), RD (g.busy p) S H d v → RD g S H d v
  | .non, v, h => by unfold RD at *; exact h
  | .bl b, v, h => by unfold RD at *; exact h
  | .int i, v, h => by unfold RD at *; exact h
  | .str s, v, h => by unfold RD at *; exact h
  | .tup xs, v, h => by
    unfold RD at *
    obtain ⟨a, vs, e, k, r⟩ := h
    refine ⟨a, vs, e, ?_, RDs.idle xs vs r⟩
    rcases k with ⟨k, nb, q⟩ | k
    · exact .inl ⟨k, fun z => nb (List.mem_cons_of_mem _ z), q⟩
    · exact .inr k
  | .lst xs, v, h => by
    unfold RD at *
    obtain ⟨a, vs, e, k, nb, q, r⟩ := h
    exact ⟨a, vs, e, k, fun z => nb (List.mem_cons_of_mem _ z), q, RDs.idle xs vs r⟩
  | .lsk xs, v, h => by
    unfold RD at *
    obtain ⟨a, vs, e, k, r⟩ := h
    refine ⟨a, vs, e, ?_, RDs.idle xs vs r⟩
    rcases k with ⟨k, nb, q⟩ | k
    · exact .inl ⟨k, fun z => nb (List.mem_cons_of_mem _ z), q⟩
    · exact .inr k
  | .obj a, v, h => by unfold RD at *; exact h
  | .ty n, v, h => by unfold RD at *; exact h
  | .gl x, v, h => by unfold RD at *; exact h
  | .ins C ns ds, v, h => by
    unfold RD at *
    obtain ⟨a, c, dx, vs, e, ⟨k, nb, q⟩, ⟨k', nb', q'⟩, m, l, r⟩ := h
    exact ⟨a, c, dx, vs, e, ⟨k, fun z => nb (List.mem_cons_of_mem _ z), q⟩, ⟨k', fun z => nb' (List.mem_cons_of_mem _ z), q'⟩, m, l, RDs.idle ds vs r⟩
  | .dct ks ds, v, h => by
    unfold RD at *
    obtain ⟨a, qs, vs, e, ⟨k, nb, q⟩, m, l, r⟩ := h
    exact ⟨a, qs, vs, e, ⟨k, fun z => nb (List.mem_cons_of_mem _ z), q⟩, m, l, RDs.idle ds vs r⟩
  | .exn C ns ds, v, h => by
    unfold RD at *
    obtain ⟨a, c, d, vs, e, ⟨k, nb, q⟩, m, l, r, z⟩ := h
    refine ⟨a, c, d, vs, e, ⟨k, fun z => nb (List.mem_cons_of_mem _ z), q⟩, m, l, RDs.idle ds vs r, ?_⟩
    rcases z with z | ⟨dx, e1, k1, n1, q1⟩
    · exact .inl z
    · exact .inr ⟨dx, e1, k1, fun z => n1 (List.mem_cons_of_mem _ z), q1⟩
theorem RDs.idle {p : Addr} : ∀ (ds : List D) (vs : List V), RDs (g.busy p) S H ds vs → RDs g S H ds vs
  | [], vs, h => by unfold RDs at *; exact h
  | d :: ds, vs, h => by
    unfold RDs at *
    obtain ⟨v, r, e, h1, h2⟩ := h
    exact ⟨v, r, e, RD.idle d v h1, RDs.idle ds r h2⟩
end
theorem RFs.via {g' : Gx} (f : ∀ d v, RD g S H d v → RD g' S' H' d v) : ∀ {fs : List (Str × D)} {gs : List (Str × V)}, RFs g S H fs gs → RFs g' S' H' fs gs
  | [], _, h => h
  | (x, d) :: fs, _, ⟨v, r, e, h1, h2⟩ => ⟨v, r, e, f d v h1, RFs.via f h2⟩
theorem RKs.via {g' : Gx} (f : ∀ d v, RD g S H d v → RD g' S' H' d v) : ∀ {fs : List (D × D)} {gs : List (Key × V)}, RKs g S H fs gs → RKs g' S' H' fs gs
  | [], _, h => h
  | (x, d) :: fs, _, ⟨q, v, r, e, k, h1, h2⟩ => ⟨q, v, r, e, k, f d v h1, RKs.via f h2⟩
theorem RS.busy (rs : RS g S H) {p : Addr} {u : HO} (hp : H p = none) : RS (g.busy p) S (upd H p u) := by
  refine ⟨fun a x hx => ?_, fun b hb => ?_⟩
  · obtain ⟨nb, q⟩ := rs.1 a x hx
    have f := fun d v => RD.busy (g := g) (S := S) (u := u) hp d v
    cases x with
    | lst xs => obtain ⟨vs, h, r⟩ := q; exact ⟨fun z => (List.mem_cons.mp z).elim (ne_of_none h hp) nb, vs, by rw [upd_ne (ne_of_none h hp)]; exact h, RDs.busy hp xs vs r⟩
    | ins C fs => obtain ⟨c, dx, gs, m, h, k, o1, r⟩ := q; exact ⟨fun z => (List.mem_cons.mp z).elim (ne_of_none h hp) nb, c, dx, gs, m, by rw [upd_ne (ne_of_none h hp)]; exact h, ⟨k.1, fun z => (List.mem_cons.mp z).elim (ne_of_none o1 hp) k.2⟩, by rw [upd_ne (ne_of_none o1 hp)]; exact o1, r.via f⟩
    | dct kvs => obtain ⟨gs, h, r⟩ := q; exact ⟨fun z => (List.mem_cons.mp z).elim (ne_of_none h hp) nb, gs, by rw [upd_ne (ne_of_none h hp)]; exact h, r.via f⟩
  · rcases List.mem_cons.mp hb with rfl | hb
    · exact ⟨rs.free hp, _, upd_same⟩
    · obtain ⟨k, o, e⟩ := rs.2 b hb
      exact ⟨k, o, by rw [upd_ne (ne_of_none e hp)]; exact e⟩
theorem RS.turn {p : Addr} {u : HO} (hp : ∀ b, H p ≠ some (.own b)) (rs : RS (g.busy p) S H) : RS (g.busy p) S (upd H p u) := by
  refine ⟨fun a x hx => ?_, fun b hb => ?_⟩
  · obtain ⟨nb, q⟩ := rs.1 a x hx
    have ne : a ≠ p := fun z => nb (by rw [z]; exact List.mem_cons_self ..)
    have f := fun d v => RD.turn (g := g) (p := p) (S := S) (H := H) (u := u) d v
    cases x with
    | lst xs => obtain ⟨vs, h, r⟩ := q; exact ⟨nb, vs, by rw [upd_ne ne]; exact h, RDs.turn xs vs r⟩
    | ins C fs =>
      obtain ⟨c, dx, gs, m, h, k, o1, r⟩ := q
      have nd : dx ≠ p := fun z => hp _ (z ▸ o1)
      exact ⟨nb, c, dx, gs, m, by rw [upd_ne ne]; exact h, k, by rw [upd_ne nd]; exact o1, r.via f⟩
    | dct kvs => obtain ⟨gs, h, r⟩ := q; exact ⟨nb, gs, by rw [upd_ne ne]; exact h, r.via f⟩
  · obtain ⟨k, o, e⟩ := rs.2 b hb
    by_cases z : b = p
    · subst z; exact ⟨k, _, upd_same⟩
    · exact ⟨k, o, by rw [upd_ne z]; exact e⟩
theorem RS.idle {p : Addr} (rs : RS (g.busy p) S H) : RS g S H := by
  refine ⟨fun a x hx => ?_, fun b hb => rs.2 b (List.mem_cons_of_mem _ hb)⟩
  obtain ⟨nb, q⟩ := rs.1 a x hx
  have f := fun d v => RD.idle (g := g) (p := p) (S := S) (H := H) d v
  refine ⟨fun z => nb (List.mem_cons_of_mem _ z), ?_⟩
  cases x with
  | lst xs => obtain ⟨vs, h, r⟩ := q; exact ⟨vs, h, RDs.idle xs vs r⟩
  | ins C fs => obtain ⟨c, dx, gs, m, h, k, o1, r⟩ := q; exact ⟨c, dx, gs, m, h, ⟨k.1, fun z => k.2 (List.mem_cons_of_mem _ z)⟩, o1, r.via f⟩
  | dct kvs => obtain ⟨gs, h, r⟩ := q; exact ⟨gs, h, r.via f⟩
end
end G
namespace G
open PySem PySem.Spec PyProof.Rows L2
def ini : Str := "__init__"
def biTys : List String := ["int", "str", "bool", "tuple", "list", "dict"]
/-- the look at the class -/
def oxB (K : PySem.W.Frag) (C : Addr) (tl : List Value) (newId : String) : Bool := match K.lookup C with
  | some ⟨.type "type", _, .cls cd, sl⟩ => (match cd.mro, sl.toList with
    | .ref C' :: bm, [_, _, _, _, some (.builtin n), _] => C' == C && n == newId && !cd.hasDel && cd.hasDict && PySem.W.excTail tl bm
    | _, _ => false)
  | _ => false
/-- the looks at an error's class c, under bc, with its __init__ at a -/
def xOne (K : PySem.W.Frag) (c bc a : Addr) (f : Option Str) (newId initId : String) (tl : List Value) : Bool :=
  oxB K c tl newId && (He.eqO (PySem.W.findIn K (.ref c) "__setattr__") (some (some (.builtin "object.__setattr__"))) && (decide (PySem.W.subIn K (.ref c) (.type "BaseException") = some true) && (decide (PySem.W.typeIn K (.ref c) = some (.type "type")) && (PySem.W.keepIn K (.ref c) &&
  (decide (PySem.W.typeIn K (.ref a) = some (.type "function")) && (xfB K c && ((match f with | some z => He.eqO (PySem.W.findIn K (.ref c) z) (some none) | none => true) && (PySem.W.readsIn K bc (.type "type") && (He.eqO (PySem.W.specialIn K (.ref bc) "__getattribute__") (some (some (.builtin "type.__getattribute__"))) &&
  (match PySem.W.findCls K (.ref bc) (.type "type") "__init__" with | some (.val (.builtin i)) => decide (i = initId) | _ => false))))))))))
/-- the built-in base of an error's class -/
inductive Xb where
  | val | look | arith
def Xb.nm : Xb → String
  | .val => "ValueError" | .look => "LookupError" | .arith => "ArithmeticError"
def Xb.new : Xb → String
  | .val => "ValueError.__new__" | .look => "LookupError.__new__" | .arith => "ArithmeticError.__new__"
def Xb.ini : Xb → String
  | .val => "ValueError.__init__" | .look => "LookupError.__init__" | .arith => "ArithmeticError.__init__"
def Xb.tl (b : Xb) : List Value := [.type b.nm, .type "Exception", .type "BaseException", .type "object"]
def excB (K : PySem.W.Frag) (D : Addr) : Bool :=
  He.eqO (PySem.W.findIn K (.ref D) "__getattribute__") (some (some (.builtin "BaseException.__getattribute__"))) && (He.eqO (PySem.W.findIn K (.ref D) "__getattr__") (some none) && (decide (PySem.W.subIn K (.ref D) (.type "BaseException") = some true) && (PySem.W.hasDictIn K D &&
  (He.eqO (PySem.W.findIn K (.ref D) "__class__") (some (some (.builtin "object.__class__"))) && (He.eqO (PySem.W.specialIn K (.builtin "object.__class__") "__get__") (some (some (.builtin "getset_descriptor.__get__"))) && (decide (PySem.W.takesIn K (.builtin "object.__class__") = some true) && decide (PySem.W.mroIn K D (.type "object") = some true)))))))
/-- one pair of classes -/
def xsOne (K : PySem.W.Frag) (c : Addr) (D : Str) (b : Bool) : Bool := match PySem.W.nsIn K mainGlobals D with
  | some (some (.ref d)) => decide (PySem.W.exmOne K (.ref c) (.ref d) = some b) && decide (PySem.W.kitOne K (.ref c) (.ref d) = some b)
  | some none => (match bootBuiltins D with
    | some (.type n) => !(D == ("__name__" : Str)) && (decide (PySem.W.exmOne K (.ref c) (.type n) = some b) && decide (PySem.W.kitOne K (.ref c) (.type n) = some b))
    | _ => false)
  | _ => false
/-- an error's class: what stands above it and what doesn't -/
def xsRow (K : PySem.W.Frag) (p : Str × List (Str × Bool)) : Bool := match PySem.W.nsIn K mainGlobals p.1 with
  | some (some (.ref c)) => excB K c && p.2.all fun q => xsOne K c q.1 q.2
  | _ => false
/-- the objects that an object leads to, as far as the facts ask -/
def ckRefs (o : Obj) : List Addr := match o.data with
  | .seq its _ => its.toList.flatMap He.refV
  | .dict es _ => es.toList.flatMap fun e => He.refV e.val ++ He.refV e.key
  | .func fd => He.refV fd.code ++ (He.refV fd.defaults ++ He.refV fd.kwdefaults)
  | .cls cd => [cd.ns]
  | _ => []
def ckSee (g : Addr → Option Obj) (a : Addr) : Option (Addr × Obj) := match g a with
  | some o => some (a, o)
  | none => none
def ckFr (g : Addr → Option Obj) : Nat → List Addr → PySem.W.Frag
  | 0, _ => []
  | n + 1, as => as.filterMap (ckSee g) ++ ckFr g n ((as.filterMap (ckSee g)).flatMap fun p => ckRefs p.2)
theorem ckFr_mem {g : Addr → Option Obj} {a : Addr} {o : Obj} : ∀ {n : Nat} {as : List Addr}, (a, o) ∈ ckFr g n as → g a = some o
  | 0, _, h => by cases h
  | n + 1, as, h => by
    rcases List.mem_append.mp (show (a, o) ∈ as.filterMap (ckSee g) ++ ckFr g n _ from h) with h | h
    · obtain ⟨b, _, e⟩ := List.mem_filterMap.mp h
      unfold ckSee at e
      cases hb : g b with
      | none => rw [hb] at e; cases e
      | some u =>
        rw [hb] at e
        have e2 : (b, u) = (a, o) := Option.some.inj e
        injection e2 with e3 e4
        rw [← e3, ← e4]
        exact hb
    · exact ckFr_mem h
theorem ck_look {a : Addr} {o : Obj} : ∀ {l : List (Addr × Obj)}, l.lookup a = some o → (a, o) ∈ l
  | [], h => by cases h
  | (b, u) :: r, h => by
    have h2 : (match a == b with | true => some u | false => r.lookup a) = some o := h
    cases q : (a == b) with
    | true =>
      rw [q] at h2
      have e : u = o := Option.some.inj h2
      rw [beq_iff_eq.mp q, e]
      exact List.mem_cons_self
    | false =>
      rw [q] at h2
      exact List.mem_cons_of_mem _ (ck_look h2)
def ckM (g : Addr → Option Obj) : PySem.W.Frag := ckFr g 6 [mainGlobals] ++ ckFr g 1 [cStatics]
theorem ckM_in {h : Heap} : (ckM h.get?).In h := fun _ _ e => (List.mem_append.mp (ck_look e)).elim ckFr_mem ckFr_mem
abbrev Chk : Type := PySem.W.Frag → Bool
structure CkSays (cs : List Chk) (fn : List He.DefD) (K : PySem.W.Frag) : Prop where
  chk : (cs.all fun c => c K) = true
  defs : He.SaysD [] fn K
abbrev CkAl : Type := Bool × He.AlD
def ckObs (cs : List Chk) (fn : List He.DefD) (g : Addr → Option Obj) : CkAl := (cs.all fun c => c (ckM g), He.obsD [] fn (ckM g))
def ckHook (cs : List Chk) (fn : List He.DefD) : PySem.W.Hook where
  α := CkAl
  obs := fun s => ckObs cs fn s.heap.get?
  val := fun _ => (true, He.valD fn)
  says := fun _ h => ∃ K : PySem.W.Frag, K.In h ∧ CkSays cs fn K
  of := fun _ _ e => ⟨_, ckM_in, congrArg (fun z : CkAl => z.1) e, congrArg (fun z : CkAl => z.2) e⟩
  keeps := fun _ _ _ ⟨K, hK, c⟩ k => ⟨K, PySem.W.Frag.In.keeps hK k, c⟩
def ckEmp (K : PySem.W.Frag) (e : Addr) : Bool := match K.lookup e with
  | some ⟨.type c, _, .seq its _, _⟩ => decide (c = "tuple") && decide (its.size = 0)
  | _ => false
def ckGlo (x : Str) : Chk := fun K => (He.Fa.glo x).ok K
def ckFree (x : Str) : Chk := fun K => (He.Fa.free x).ok K
def ckInt (x : Str) (i : Int) : Chk := fun K => (He.Fa.int x i).ok K
def ckStr (x z : Str) : Chk := fun K => (He.Fa.str x z).ok K
def ckCls (C : Str) (fs : List Str) : Chk := fun K => (He.Fa.glo C).ok K && ((He.Fa.cls C).ok K && (PySem.W.makesIn K (He.ga K C) && (PySem.W.keepIn K (.ref (He.ga K C)) && (He.eqO (PySem.W.findIn K (.ref (He.ga K C)) "__class__") (some (some (.builtin "object.__class__"))) &&
  (He.eqO (PySem.W.specialIn K (.builtin "object.__class__") "__get__") (some (some (.builtin "getset_descriptor.__get__"))) && (decide (PySem.W.takesIn K (.builtin "object.__class__") = some true) && (decide (PySem.W.mroIn K (He.ga K C) (.type "object") = some true) && fs.all fun f => (He.Fa.noat C f).ok K)))))))
def ckOwn (C : Str) : Chk := fun K => (He.Fa.glo C).ok K && (decide (PySem.W.typeIn K (.ref (He.ga K C)) = some (.type "type")) && ((biTys.all fun m => decide (PySem.W.subIn K (.ref (He.ga K C)) (.type m) = some false)) && decide (PySem.W.subIn K (.ref (He.ga K C)) (.ref (He.ga K C)) = some true)))
def ckXs (t : List (Str × List (Str × Bool))) : Chk := fun K => t.all (xsRow K)
def ckMe (C m : Str) : Chk := fun K => (He.Fa.glo C).ok K && ((He.Fa.cls C).ok K && (He.Fa.meth C m).ok K)
def ckMeD (C m : Str) : Chk := fun K => ckMe C m K && ckEmp K (He.dflAt (C, some m) 0 K)
def ckXc (C B0 : Str) (f : Option Str) (xb : Xb) : Chk := fun K => (He.Fa.glo C).ok K && ((He.Fa.glo B0).ok K && (He.eqO (PySem.W.findIn K (.ref (He.ga K C)) "__init__") (some (some (.ref (He.ma K (He.ga K C) "__init__")))) && (xOne K (He.ga K C) (He.ga K B0) (He.ma K (He.ga K C) "__init__") f xb.new xb.ini xb.tl && (He.Fa.free "str").ok K)))
def abc : List Nat := [97, 98, 99, 100, 101, 102, 103, 104, 105, 106, 107, 108, 109, 110, 111, 112, 113, 114, 115, 116, 117, 118, 119, 120, 121, 122]
def allX : List Str := ["NoSize", "NoBands", "NoText", "NoPicture", "NoWish", "NoHistory", "NoNames", "NoRules", "NoHands", "NoTorn", "NoCells", "NoDeed", "NoCount", "NoRow", "NoBoard", "NoBand", "NoCell", "NoBack", "NoWay", "TooMany", "Full"]
def famX : List Str := ["CoatError", "StandError", "RoomError"]
def rootX : List Str := ["ValueError", "LookupError", "ArithmeticError"]
/-- of the i-th class: what stands above it: the j-th family, the j-th root -/
def rowX (i j : Nat) : List (Str × Bool) := (allX.zipIdx.map fun p => (p.1, p.2 == i)) ++ ((famX.zipIdx.map fun p => (p.1, p.2 == j)) ++ (rootX.zipIdx.map fun p => (p.1, p.2 == j)))
end G
namespace G
open PySem L2
def top (i : Nat) : Stmt := PySem.Challenge.pw_lastcoat_k08_pictures_and_wishes_of_any.main.body.getD i (.Pass ⟨0, 0, 0, 0⟩)
abbrev s_law_purse : Stmt := top 55
abbrev s_law_cell : Stmt := top 54
abbrev s_law_pick : Stmt := top 56
abbrev s_law_letters : Stmt := top 58
abbrev s_law_any_look : Stmt := top 62
abbrev s_law_any_part : Stmt := top 63
abbrev s_law_odd : Stmt := top 64
abbrev s_law_bent_look : Stmt := top 65
abbrev s_law_bent_dream : Stmt := top 66
abbrev s_law_is_letters : Stmt := top 59
abbrev s_law_is_look : Stmt := top 60
abbrev s_law_is_dream : Stmt := top 61
abbrev s_check_board : Stmt := top 46
abbrev s_are_letters : Stmt := top 33
abbrev s_is_colour : Stmt := top 34
abbrev s_are_colours : Stmt := top 49
abbrev s_how_many : Stmt := top 48
abbrev s_is_picture : Stmt := top 51
abbrev s_is_rising : Stmt := top 32
abbrev s_is_part : Stmt := top 50
abbrev s_is_wish : Stmt := top 52
abbrev s_law_truth : Stmt := top 67
abbrev s_law_told_right : Stmt := top 68
abbrev s_law_sort : Stmt := top 57
abbrev s_law_refused : Stmt := top 69
abbrev s_is_whole : Stmt := top 30
abbrev s_is_within : Stmt := top 31
abbrev s_is_name : Stmt := top 36
abbrev s_are_cells : Stmt := top 41
abbrev s_are_pots : Stmt := top 35
abbrev s_is_band : Stmt := top 42
abbrev s_check_bands : Stmt := top 43
abbrev s_Board___init__ : Stmt := inClass (top 45) 0
abbrev s_law : Stmt := top 70
abbrev sr_Board : Stmt := inClass (top 45) 13
abbrev sx_NoBoard : Stmt := inClass (top 19) 0
abbrev sx_NoSize : Stmt := inClass (top 5) 0
abbrev sx_NoBands : Stmt := inClass (top 6) 0
def dd_law_purse : He.DefD := ⟨("_law_purse", none), "_law_purse", "_law_purse", defArgs s_law_purse, defBody s_law_purse, defScope s_law_purse, [], []⟩
def dd_law_cell : He.DefD := ⟨("_law_cell", none), "_law_cell", "_law_cell", defArgs s_law_cell, defBody s_law_cell, defScope s_law_cell, [], []⟩
def dd_law_pick : He.DefD := ⟨("_law_pick", none), "_law_pick", "_law_pick", defArgs s_law_pick, defBody s_law_pick, defScope s_law_pick, [], []⟩
def dd_law_letters : He.DefD := ⟨("_law_letters", none), "_law_letters", "_law_letters", defArgs s_law_letters, defBody s_law_letters, defScope s_law_letters, [], []⟩
def dd_law_any_look : He.DefD := ⟨("_law_any_look", none), "_law_any_look", "_law_any_look", defArgs s_law_any_look, defBody s_law_any_look, defScope s_law_any_look, [], []⟩
def dd_law_any_part : He.DefD := ⟨("_law_any_part", none), "_law_any_part", "_law_any_part", defArgs s_law_any_part, defBody s_law_any_part, defScope s_law_any_part, [], []⟩
def dd_law_odd : He.DefD := ⟨("_law_odd", none), "_law_odd", "_law_odd", defArgs s_law_odd, defBody s_law_odd, defScope s_law_odd, [], []⟩
def dd_law_bent_look : He.DefD := ⟨("_law_bent_look", none), "_law_bent_look", "_law_bent_look", defArgs s_law_bent_look, defBody s_law_bent_look, defScope s_law_bent_look, [], []⟩
def dd_law_bent_dream : He.DefD := ⟨("_law_bent_dream", none), "_law_bent_dream", "_law_bent_dream", defArgs s_law_bent_dream, defBody s_law_bent_dream, defScope s_law_bent_dream, [], []⟩
def dd_law_is_letters : He.DefD := ⟨("_law_is_letters", none), "_law_is_letters", "_law_is_letters", defArgs s_law_is_letters, defBody s_law_is_letters, defScope s_law_is_letters, [], []⟩
def dd_law_is_look : He.DefD := ⟨("_law_is_look", none), "_law_is_look", "_law_is_look", defArgs s_law_is_look, defBody s_law_is_look, defScope s_law_is_look, [], []⟩
def dd_law_is_dream : He.DefD := ⟨("_law_is_dream", none), "_law_is_dream", "_law_is_dream", defArgs s_law_is_dream, defBody s_law_is_dream, defScope s_law_is_dream, [], []⟩
def dd_check_board : He.DefD := ⟨("check_board", none), "check_board", "check_board", defArgs s_check_board, defBody s_check_board, defScope s_check_board, [], []⟩
def dd_are_letters : He.DefD := ⟨("are_letters", none), "are_letters", "are_letters", defArgs s_are_letters, defBody s_are_letters, defScope s_are_letters, [], []⟩
def dd_is_colour : He.DefD := ⟨("is_colour", none), "is_colour", "is_colour", defArgs s_is_colour, defBody s_is_colour, defScope s_is_colour, [], []⟩
def dd_are_colours : He.DefD := ⟨("are_colours", none), "are_colours", "are_colours", defArgs s_are_colours, defBody s_are_colours, defScope s_are_colours, [], []⟩
def dd_how_many : He.DefD := ⟨("how_many", none), "how_many", "how_many", defArgs s_how_many, defBody s_how_many, defScope s_how_many, [], []⟩
def dd_is_picture : He.DefD := ⟨("is_picture", none), "is_picture", "is_picture", defArgs s_is_picture, defBody s_is_picture, defScope s_is_picture, [], []⟩
def dd_is_rising : He.DefD := ⟨("is_rising", none), "is_rising", "is_rising", defArgs s_is_rising, defBody s_is_rising, defScope s_is_rising, [], []⟩
def dd_is_part : He.DefD := ⟨("is_part", none), "is_part", "is_part", defArgs s_is_part, defBody s_is_part, defScope s_is_part, [], []⟩
def dd_is_wish : He.DefD := ⟨("is_wish", none), "is_wish", "is_wish", defArgs s_is_wish, defBody s_is_wish, defScope s_is_wish, [], []⟩
def dd_law_truth : He.DefD := ⟨("_law_truth", none), "_law_truth", "_law_truth", defArgs s_law_truth, defBody s_law_truth, defScope s_law_truth, [], []⟩
def dd_law_told_right : He.DefD := ⟨("_law_told_right", none), "_law_told_right", "_law_told_right", defArgs s_law_told_right, defBody s_law_told_right, defScope s_law_told_right, [], []⟩
def dd_law_sort : He.DefD := ⟨("_law_sort", none), "_law_sort", "_law_sort", defArgs s_law_sort, defBody s_law_sort, defScope s_law_sort, [], []⟩
def dd_law_refused : He.DefD := ⟨("_law_refused", none), "_law_refused", "_law_refused", defArgs s_law_refused, defBody s_law_refused, defScope s_law_refused, [], []⟩
def dd_is_whole : He.DefD := ⟨("is_whole", none), "is_whole", "is_whole", defArgs s_is_whole, defBody s_is_whole, defScope s_is_whole, [], []⟩
def dd_is_within : He.DefD := ⟨("is_within", none), "is_within", "is_within", defArgs s_is_within, defBody s_is_within, defScope s_is_within, [], []⟩
def dd_is_name : He.DefD := ⟨("is_name", none), "is_name", "is_name", defArgs s_is_name, defBody s_is_name, defScope s_is_name, [], []⟩
def dd_are_cells : He.DefD := ⟨("are_cells", none), "are_cells", "are_cells", defArgs s_are_cells, defBody s_are_cells, defScope s_are_cells, [], []⟩
def dd_are_pots : He.DefD := ⟨("are_pots", none), "are_pots", "are_pots", defArgs s_are_pots, defBody s_are_pots, defScope s_are_pots, [], []⟩
def dd_is_band : He.DefD := ⟨("is_band", none), "is_band", "is_band", defArgs s_is_band, defBody s_is_band, defScope s_is_band, [], []⟩
def dd_check_bands : He.DefD := ⟨("check_bands", none), "check_bands", "check_bands", defArgs s_check_bands, defBody s_check_bands, defScope s_check_bands, [], []⟩
def dd_Board___init__ : He.DefD := ⟨("Board", some ini), ini, "Board.__init__", defArgs s_Board___init__, defBody s_Board___init__, defScope s_Board___init__, [.adr (He.dflAt ("Board", some ini) 0)], []⟩
def dd_law : He.DefD := ⟨("law", none), "law", "law", defArgs s_law, defBody s_law, defScope s_law, [], []⟩
def dd_rp_Board : He.DefD := ⟨("Board", some "__repr__"), "__repr__", "Board.__repr__", defArgs sr_Board, defBody sr_Board, defScope sr_Board, [], []⟩
def dd_x_NoBoard : He.DefD := ⟨("NoBoard", some "__init__"), "__init__", "NoBoard.__init__", defArgs sx_NoBoard, defBody sx_NoBoard, defScope sx_NoBoard, [], []⟩
def dd_x_NoSize : He.DefD := ⟨("NoSize", some "__init__"), "__init__", "NoSize.__init__", defArgs sx_NoSize, defBody sx_NoSize, defScope sx_NoSize, [], []⟩
def dd_x_NoBands : He.DefD := ⟨("NoBands", some "__init__"), "__init__", "NoBands.__init__", defArgs sx_NoBands, defBody sx_NoBands, defScope sx_NoBands, [], []⟩
def cs_j : List Chk := [ckStr "LETTERS" (mkS abc), ckInt "MOST_SIDE" 6, ckInt "MOST_BANDS" 12, ckInt "MOST_COST" 9, ckInt "MOST_NAME" 6, ckInt "MOST_POTS" 6, ckCls "Board" ["high", "wide", "bands"], ckOwn "Board", ckFree "Wall", ckFree "Desk", ckFree "len", ckFree "all", ckFree "any", ckFree "abs", ckFree "max", ckFree "min", ckFree "int", ckFree "str", ckFree "tuple", ckFree "list", ckFree "divmod", ckFree "isinstance", ckFree "range", ckFree "enumerate", ckFree "zip", ckFree "bool", ckFree "dict", ckFree "sorted", ckFree "set", ckFree "repr", ckFree "sum", ckFree "reversed", ckXs [("NoBoard", (rowX 14 1)), ("NoPicture", (rowX 3 0)), ("NoWish", (rowX 4 0))], ckMe "Board" "__repr__", ckGlo "_law_purse", ckGlo "_law_cell", ckGlo "_law_pick", ckGlo "_law_letters", ckGlo "_law_any_look", ckGlo "_law_any_part", ckGlo "_law_odd", ckGlo "_law_bent_look", ckGlo "_law_bent_dream", ckGlo "_law_is_letters", ckGlo "_law_is_look", ckGlo "_law_is_dream", ckGlo "check_board", ckGlo "are_letters", ckGlo "is_colour", ckGlo "are_colours", ckGlo "how_many", ckGlo "is_picture", ckGlo "is_rising", ckGlo "is_part", ckGlo "is_wish", ckGlo "_law_truth", ckGlo "_law_told_right", ckGlo "_law_sort", ckGlo "_law_refused", ckGlo "is_whole", ckGlo "is_within", ckGlo "is_name", ckGlo "are_cells", ckGlo "are_pots", ckGlo "is_band", ckGlo "check_bands", ckMeD "Board" ini, ckGlo "law", ckXc "NoBoard" "StandError" (some "board") .look, ckXc "NoSize" "CoatError" (some "part") .val, ckXc "NoBands" "CoatError" (some "number") .val]
def fn_j : List He.DefD := [dd_law_purse, dd_law_cell, dd_law_pick, dd_law_letters, dd_law_any_look, dd_law_any_part, dd_law_odd, dd_law_bent_look, dd_law_bent_dream, dd_law_is_letters, dd_law_is_look, dd_law_is_dream, dd_check_board, dd_are_letters, dd_is_colour, dd_are_colours, dd_how_many, dd_is_picture, dd_is_rising, dd_is_part, dd_is_wish, dd_law_truth, dd_law_told_right, dd_law_sort, dd_law_refused, dd_is_whole, dd_is_within, dd_is_name, dd_are_cells, dd_are_pots, dd_is_band, dd_check_bands, dd_Board___init__, dd_law, dd_rp_Board, dd_x_NoBoard, dd_x_NoSize, dd_x_NoBands]
def nm_0 : List PySem.Str := ["_wall", "CoatError", "StandError", "RoomError", "NoSize", "NoBands", "NoText", "NoPicture", "NoWish", "NoHistory", "NoNames", "NoRules", "NoHands", "NoTorn", "NoCells", "NoDeed", "NoCount", "NoRow", "NoBoard", "NoBand", "NoCell", "NoBack", "NoWay", "TooMany", "Full", "LETTERS", "MOST_POTS", "MOST_NAME", "is_whole", "is_within"]
def nm_1 : List PySem.Str := ["is_rising", "are_letters", "is_colour", "are_pots", "is_name", "MOST_SIDE", "MOST_BANDS", "MOST_COST", "are_cells", "is_band", "check_bands", "band_text", "Board", "check_board", "how_many", "are_colours", "is_part", "is_picture", "is_wish", "_law_cell", "_law_purse", "_law_pick", "_law_sort", "_law_letters", "_law_is_letters", "_law_is_look", "_law_is_dream", "_law_any_look", "_law_any_part", "_law_odd"]
def nm_2 : List PySem.Str := ["_law_bent_look", "_law_bent_dream", "_law_truth", "_law_told_right", "_law_refused"]
def nm_j : List PySem.Str := nm_0 ++ nm_1 ++ nm_2
abbrev R_j : PySem.W.OpenRow := PySem.W.OpenLaw.row PySem.Challenge.rw_lastcoat_k08_pictures_and_wishes_of_any
noncomputable def ob_j (s : PySem.W.SharedT) : CkAl := ckObs cs_j fn_j (HandSHeadRun.getT s)
set_option maxHeartbeats 0 in
theorem run_j (w : World) : HandSHeadRun.RunEq R_j (PySem.W.view R_j.prog [70]) (ckHook cs_j fn_j) ob_j 20000 nm_j w := by
  intro os
  kernel_rfl
end G
/-! G1: a small syntax without places, and what must hold so that it runs as wished. -/
namespace G
open PySem L2
abbrev QV := D → Sto → Prop
abbrev QX := Exn → Sto → Prop
abbrev Sl := List (Option D)
/-- what is wished of an error, by the slots where it comes up -/
abbrev QE := Sl → QX
abbrev FSp := List D → Sto → QV → QX → Prop
/-- a built-in kind, an own class -/
inductive Kd where
  | b (n : String) | o (C : Str)
/-- a part of what a __repr__ tells: signs, a field, how many a field has -/
inductive Rpt where
  | txt (s : List Nat) | fld (f : Str) | len (f : Str)
/-- what is known of the module: its constants, its defs' and its methods' promises -/
structure Tab where
  con : Str → Option D
  fn : Str → Option FSp
  me : Str → Str → Option FSp
  flds : Str → List Str
  dfs : Str → List D → Prop
  kw : Str → Nat → List Str → Option (List (Nat ⊕ D))
  /-- an error's class: its field, if it has one, and whether its word is made of it -/
  xc : Str → Option (Option Str × Bool)
  /-- an error's class under another one -/
  xs : Str → Str → Option Bool
  /-- a def that may be asked while an error is held -/
  hot : Str → Bool
  /-- a class whose != is the one of object -/
  spc : Str → Bool
  /-- a dict that the module's top makes, of truths' tuples to texts, never changed -/
  gd : Str → Option (List (List Bool × List Nat))
  /-- what a class's __repr__ tells -/
  rp : Str → Option (List Rpt)
inductive Bi where
  | len | all | any | abs | max2 | min2 | int | str | tuple | list | divmod | repr | sorted | sum | bool
def Bi.nm : Bi → Str
  | .len => "len" | .all => "all" | .any => "any" | .abs => "abs" | .max2 => "max" | .min2 => "min" | .int => "int" | .str => "str" | .tuple => "tuple" | .list => "list" | .divmod => "divmod" | .repr => "repr" | .sorted => "sorted" | .sum => "sum" | .bool => "bool"
def Bi.val : Bi → Value
  | .len => .builtin "len" | .all => .builtin "all" | .any => .builtin "any" | .abs => .builtin "abs" | .max2 => .builtin "max" | .min2 => .builtin "min"
  | .int => .type "int" | .str => .type "str" | .tuple => .type "tuple" | .list => .type "list" | .divmod => .builtin "divmod" | .repr => .builtin "repr" | .sorted => .builtin "sorted" | .sum => .builtin "sum" | .bool => .type "bool"
/-- a built-in that walks nothing -/
def Bi.cool : Bi → Bool
  | .len | .int | .str | .repr | .abs => true
  | _ => false
inductive Me where
  | join | append | extend | count | index | remove | insert | popAt
def Me.nm : Me → Str
  | .join => "join" | .append => "append" | .extend => "extend" | .count => "count" | .index => "index" | .remove => "remove" | .insert => "insert" | .popAt => "pop"
def Me.ty : Me → String
  | .join => "str" | .append => "list" | .extend => "list" | .count => "list" | .index => "list" | .remove => "list" | .insert => "list" | .popAt => "list"
def Me.id : Me → String
  | .join => "str.join" | .append => "list.append" | .extend => "list.extend" | .count => "list.count" | .index => "list.index" | .remove => "list.remove" | .insert => "list.insert" | .popAt => "list.pop"
/-- a method without arguments -/
inductive Me0 where
  | pop
def Me0.nm : Me0 → Str
  | .pop => "pop"
mutual
inductive E where
  | loc (i : Nat) | const (d : D) | glob (x : Str)
  | bin (op : Operator) (a b : E) | neg (a : E)
  | cmp (op : CmpOp) (a b : E) | cmp2 (op op' : CmpOp) (a b c : E)
  | bool (op : BoolOp) (es : Es) | not (a : E) | ite (t a b : E)
  | call (f : Str) (es : Es) (df : List D) | callk (f : Str) (es : Es) (ks : List Str) (kes : Es) (pl : List (Nat ⊕ D))
  | make (fz : Bool) (C : Str) (es : Es) (df : List D)
  | bi (fz : Bool) (b : Bi) (es : Es) | isi (a : E) (t : Kd)
  | meth (m : Me) (o : E) (es : Es) | own (o : E) (C m : Str) (es : Es)
  | attr (o : E) (f : Str) | sub (o i : E) | sl (o : E) (lo hi : Eo)
  | tup (es : Es) | lst (fz : Bool) (es : Es)
  | lc (fz : Bool) (elt : E) (tg : Tg) (it : It) (ifs : Eo)
  | bad | sset (fz : Bool) (a : E) | repl (fz : Bool) (es : Es) (b : E) | dct (fz : Bool) (ps : Ep) | dc (fz : Bool) (k v : E) (tg : Tg) (it : It) (ifs : Eo) | rngT (es : Es)
 
  | hcall (f : Str) (es : Es) | isx (a : E) (C : Str) | isxs (a : E) (Cs : List Str) | xattr (o : E) (f : Str) | cat (fz : Bool) (a b : E) | rngL (fz : Bool) (es : Es) | oeq (ne : Bool) (C : Str) (a b : E) | rpr (a : E)
inductive Es where
  | nil | cons (e : E) (r : Es)
inductive Eo where
  | no | yes (e : E)
inductive Ep where
  | nil | cons (k v : E) (r : Ep)
inductive It where
  | seq (e : E) | range (es : Es) | enum (e : E) | zip (a b : E)
inductive Tg where
  | name (i : Nat) | tup (r : Tgs)
inductive Tgs where
  | nil | cons (t : Tg) (r : Tgs)
end
def esLen : Es → Nat
  | .nil => 0
  | .cons _ r => esLen r + 1
/-! ### values -/
def lim : Nat := 1000000
/-- the items of a list or a tuple -/
def seqOf (S : Sto) : D → Option (List D)
  | .tup xs => some xs
  | .lst xs => some xs
  | .lsk xs => some xs
  | .obj a => match S a with | some (.lst xs) => some xs | _ => none
  | _ => none
/-- an instance: its class, its fields -/
def insOf (S : Sto) : D → Option (Str × List (Str × D))
  | .ins C ns vs => some (C, ns.zip vs)
  | .obj a => match S a with | some (.ins C fs) => some (C, fs) | _ => none
  | _ => none
/-- a dict: its pairs -/
def dctOf (S : Sto) : D → Option (List (D × D))
  | .dct ks vs => some (ks.zip vs)
  | .obj a => match S a with | some (.dct kvs) => some kvs | _ => none
  | _ => none
def keyB (k : D) (p : D × D) : Bool := decide (toKey p.1 = toKey k)
def getK (kvs : List (D × D)) (k : D) : Option D := (kvs.find? (keyB k)).map (·.2)
def putKD (kvs : List (D × D)) (k d : D) : List (D × D) := if kvs.any (keyB k) then kvs.map (fun p => if keyB k p = true then (p.1, d) else p) else kvs ++ [(k, d)]
def Sto.del (S : Sto) (a : Addr) : Sto := fun b => if b = a then none else S b
/-- what a for goes through -/
def itemsOf (S : Sto) : D → Option (List D)
  | .str s => some (s.map fun c => .str [c])
  | d => seqOf S d
/-- as a truth -/
def truD (S : Sto) : D → Option Bool
  | .non => some false
  | .bl b => some b
  | .int i => some (i != 0)
  | .str s => if s.length ≤ lim then some (!s.isEmpty) else none
  | d => (seqOf S d).map fun xs => !xs.isEmpty
mutual
/-- data without objects -/
def plain : D → Bool
  | .non | .bl _ | .int _ | .str _ => true
  | .tup xs | .lst xs => plains xs
  | .lsk _ | .obj _ | .ty _ | .gl _ | .ins _ _ _ | .dct _ _ | .exn _ _ _ => false
def plains : List D → Bool
  | [] => true
  | d :: ds => plain d && plains ds
end
mutual
def depth : D → Nat
  | .tup xs | .lst xs => depths xs + 1
  | _ => 0
def depths : List D → Nat
  | [] => 0
  | d :: ds => max (depth d) (depths ds)
end
mutual
/-- == of data -/
def beq : D → D → Bool
  | .non, .non => true
  | .bl a, .bl b => a == b
  | .bl a, .int b => (if a then 1 else 0) == b
  | .int a, .bl b => a == (if b then 1 else 0)
  | .int a, .int b => a == b
  | .str a, .str b => a == b
  | .tup a, .tup b => beqs a b
  | .lst a, .lst b => beqs a b
  | _, _ => false
def beqs : List D → List D → Bool
  | [], [] => true
  | x :: xs, y :: ys => beq x y && beqs xs ys
  | _, _ => false
end
def flat : D → Bool
  | .non | .bl _ | .int _ | .str _ => true
  | _ => false
def cut {α : Type} (xs : List α) (lo hi : Option Int) : List α := (xs.drop (HT.sIx xs.length 0 lo)).take (HT.sIx xs.length xs.length hi - HT.sIx xs.length 0 lo)
def isNon : D → Bool
  | .non => true
  | _ => false
def opS (op : Operator) (x y : D) (S : Sto) (Q : QV) : Prop :=
  match op, x, y with
  | .Add, .int a, .int b => Q (.int (a + b)) S
  | .Add, .str a, .str b => a.length + b.length ≤ lim ∧ Q (.str (a ++ b)) S
  | .Add, .lst a, .lst b => a.length + b.length ≤ lim ∧ Q (.lst (a ++ b)) S
  | .Add, .tup a, .tup b => a.length + b.length ≤ lim ∧ Q (.tup (a ++ b)) S
  | .Sub, .int a, .int b => Q (.int (a - b)) S
  | .Mult, .int a, .int b => ((-(2 ^ 64) < a ∧ a < 2 ^ 64) ∨ (-(2 ^ 64) < b ∧ b < 2 ^ 64)) ∧ Q (.int (a * b)) S
  | .FloorDiv, .int a, .int b => 0 < b ∧ b < 1073741824 ∧ Q (.int (a / b)) S
  | .Mod, .int a, .int b => 0 < b ∧ Q (.int (a % b)) S
  | .Pow, .int a, .int b => 0 ≤ b ∧ b ≤ 1000000 ∧ a.natAbs < 2 ^ 64 ∧ Q (.int (a ^ b.toNat)) S
  | .Mult, .str s, .int k => 0 ≤ k ∧ k ≤ 1000 ∧ s.length ≤ 1000 ∧ Q (.str (List.replicate k.toNat s).flatten) S
  | .Mult, .tup xs, .int k => xs ≠ [] ∧ 1 ≤ k ∧ k ≤ 1000 ∧ xs.length ≤ 1000 ∧ Q (.tup (List.replicate k.toNat xs).flatten) S
  | .LShift, .int a, .int b => 0 ≤ b ∧ b ≤ 1000000 ∧ a.natAbs < 2 ^ 64 ∧ Q (.int (a * 2 ^ b.toNat)) S
  | .BitAnd, .int a, .int b => Q (.int (Builtin.bitAnd a b)) S
  | .BitOr, .int a, .int b => Q (.int (Builtin.bitOr a b)) S
  | .BitXor, .int a, .int b => Q (.int (Builtin.bitXor a b)) S
  | .RShift, .int a, .int b => 0 ≤ b ∧ Q (.int (a / 2 ^ b.toNat)) S
  | _, _, _ => False
def inS (S : Sto) (x y : D) (k : Bool → Prop) : Prop :=
  match y with
  | .dct ks vs => (toKey x).isSome = true ∧ k (getK (ks.zip vs) x).isSome
  | .obj a => (match S a with
    | some (.dct kvs) => (toKey x).isSome = true ∧ k (getK kvs x).isSome
    | some (.lst xs) => flat x = true ∧ xs.all flat = true ∧ k (xs.any fun z => beq z x)
    | _ => False)
  | y => ∃ xs, seqOf S y = some xs ∧ flat x = true ∧ xs.all flat = true ∧ k (xs.any fun z => beq z x)
def cmpS (op : CmpOp) (x y : D) (S : Sto) (Q : QV) : Prop :=
  match op, x, y with
  | .Lt, .int a, .int b => Q (.bl (decide (a < b))) S
  | .LtE, .int a, .int b => Q (.bl (decide (a ≤ b))) S
  | .Gt, .int a, .int b => Q (.bl (decide (b < a))) S
  | .GtE, .int a, .int b => Q (.bl (decide (b ≤ a))) S
  | .Lt, .str a, .str b => Q (.bl (decide (a < b))) S
  | .LtE, .str a, .str b => Q (.bl (!decide (b < a))) S
  | .In, .str [c], .str b => Q (.bl (decide (c ∈ b))) S
  | .NotIn, .str [c], .str b => Q (.bl (!decide (c ∈ b))) S
  | .Eq, x, y => (plain x = true ∧ plain y = true ∧ depth x ≤ 64 ∧ depth y ≤ 64) ∧ Q (.bl (beq x y)) S
  | .NotEq, x, y => (plain x = true ∧ plain y = true ∧ depth x ≤ 64 ∧ depth y ≤ 64) ∧ Q (.bl (!beq x y)) S
  | .In, x, y => inS S x y fun b => Q (.bl b) S
  | .NotIn, x, y => inS S x y fun b => Q (.bl (!b)) S
  | .Is, x, .non => Q (.bl (isNon x)) S
  | .IsNot, x, .non => Q (.bl (!isNon x)) S
  | .Is, .bl a, .bl b => Q (.bl (a == b)) S
  | .IsNot, .bl a, .bl b => Q (.bl (a != b)) S
  | _, _, _ => False
def subS (x i : D) (S : Sto) (Q : QV) : Prop :=
  match x, i with
  | .str s, .int k => s.length ≤ lim ∧ ∃ c, atI s k = some c ∧ Q (.str [c]) S
  | .dct ks vs, i => ∃ d, (toKey i).isSome = true ∧ getK (ks.zip vs) i = some d ∧ Q d S
  | .obj a, i => (match S a with
    | some (.lst xs) => ∃ k d, i = .int k ∧ atI xs k = some d ∧ Q d S
    | some (.dct kvs) => ∃ d, (toKey i).isSome = true ∧ getK kvs i = some d ∧ Q d S
    | _ => False)
  | x, .int k => ∃ xs d, seqOf S x = some xs ∧ atI xs k = some d ∧ Q d S
  | _, _ => False
/-- something is put in its place -/
def putS (S : Sto) (x i d : D) (k : Sto → Prop) : Prop :=
  match x with
  | .obj a => (match S a with
    | some (.lst xs) => ∃ n j, i = .int n ∧ ixN xs.length n = some j ∧ k (S.set a (.lst (xs.set j d)))
    | some (.dct kvs) => (toKey i).isSome = true ∧ kvs.length < lim ∧ k (S.set a (.dct (putKD kvs i d)))
    | _ => False)
  | _ => False
def slS (x : D) (lo hi : Option Int) (S : Sto) (Q : QV) : Prop :=
  match x with
  | .str s => s.length ≤ lim ∧ Q (.str (cut s lo hi)) S
  | .tup xs => Q (.tup (cut xs lo hi)) S
  | x => ∃ xs, seqOf S x = some xs ∧ Q (.lst (cut xs lo hi)) S
/-- a new list: it stays as it is, or it may change -/
def newL (fz : Bool) (xs : List D) (S : Sto) (Q : QV) : Prop :=
  if fz = true then Q (.lst xs) S else ∀ a, S a = none → Q (.obj a) (S.set a (.lst xs))
mutual
def toPy : D → PyData
  | .non => .none
  | .bl b => .bool b
  | .int i => .int i
  | .str s => .str (mkS s)
  | .tup xs => .tuple (toPys xs)
  | .lst xs => .list (toPys xs)
  | .lsk _ | .obj _ | .ty _ | .gl _ | .ins _ _ _ | .dct _ _ | .exn _ _ _ => .none
def toPys : List D → List PyData
  | [] => []
  | d :: ds => toPy d :: toPys ds
end
def isC : D → Bool
  | .tup _ | .lst _ => true
  | _ => false
/-- how a thing is shown -/
def reprD (d : D) : List Nat := (toPy d).shown.cps.toList
def digits (n : Int) : List Nat := (toString n).toList.map (·.toNat)
/-- sorted, by data -/
def srtD (xs : List D) : List D := xs.mergeSort (PySem.W.dataLe false toPy)
def srtOk (xs : List D) : Prop := plains xs = true ∧ depths xs ≤ 60 ∧ xs.length ≤ lim ∧ PySem.W.AllAlike (xs.map toPy) ∧ PySem.W.Sortable (xs.map toPy)
/-- the items of a list -/
def seqL (S : Sto) : D → Option (List D)
  | .lst xs => some xs
  | .obj a => match S a with | some (.lst xs) => some xs | _ => none
  | _ => none
def biS (fz : Bool) (b : Bi) (ds : List D) (S : Sto) (Q : QV) : Prop :=
  match b, ds with
  | .len, [.str s] => s.length ≤ lim ∧ Q (.int s.length) S
  | .len, [d] => ∃ xs, seqOf S d = some xs ∧ Q (.int xs.length) S
  | .all, [.lst ds] => ∃ bs : List Bool, ds = bs.map D.bl ∧ Q (.bl (bs.all id)) S
  | .any, [.lst ds] => ∃ bs : List Bool, ds = bs.map D.bl ∧ Q (.bl (bs.any id)) S
  | .abs, [.int i] => Q (.int (if i < 0 then -i else i)) S
  | .max2, [.int i, .int j] => Q (.int (if j > i then j else i)) S
  | .min2, [.int i, .int j] => Q (.int (if j < i then j else i)) S
  | .int, [.int i] => Q (.int i) S
  | .int, [.bl b] => Q (.int (if b then 1 else 0)) S
  | .str, [.int i] => i.natAbs < 10 ^ 9 ∧ Q (.str (digits i)) S
  | .str, [.str s] => Q (.str s) S
  | .tuple, [.str s] => s.length ≤ lim ∧ Q (.tup (s.map fun c => .str [c])) S
  | .tuple, [d] => ∃ xs, seqOf S d = some xs ∧ Q (.tup xs) S
  | .list, [.str s] => s.length ≤ lim ∧ newL fz (s.map fun c => .str [c]) S Q
  | .list, [d] => ∃ xs, seqOf S d = some xs ∧ newL fz xs S Q
  | .repr, [d] => (isC d = true ∧ plain d = true ∧ depth d ≤ 64 ∧ (toPy d).showable = true ∧ (reprD d).length ≤ lim) ∧ Q (.str (reprD d)) S
  | .divmod, [.int i, .int j] => 0 < j ∧ j < 1073741824 ∧ Q (.tup [.int (i / j), .int (i % j)]) S
  | .sorted, [d] => ∃ xs, seqOf S d = some xs ∧ srtOk xs ∧ newL fz (srtD xs) S Q
  | .sum, [d] => ∃ ns : List Int, seqL S d = some (ns.map .int) ∧ Q (.int ns.sum) S
  | .bool, [.int i] => Q (.bl (i != 0)) S
  | .bool, [.bl b] => Q (.bl b) S
  | _, _ => False
/-- glued with a text between -/
def jn (sep : List Nat) : List (List Nat) → List Nat
  | [] => []
  | [p] => p
  | p :: q :: r => p ++ (sep ++ jn sep (q :: r))
/-- what a method is asked of -/
def meT (m : Me) (o : D) (S : Sto) : Prop :=
  match m, o with
  | .join, .str _ => True
  | .append, .obj a => ∃ xs, S a = some (.lst xs)
  | .extend, .obj a => ∃ xs, S a = some (.lst xs)
  | .count, d => (∃ xs, d = .lst xs) ∨ ∃ a xs, d = .obj a ∧ S a = some (.lst xs)
  | .index, d => (∃ xs, d = .lst xs) ∨ ∃ a xs, d = .obj a ∧ S a = some (.lst xs)
  | .remove, .obj a => ∃ xs, S a = some (.lst xs)
  | .insert, .obj a => ∃ xs, S a = some (.lst xs)
  | .popAt, .obj a => ∃ xs, S a = some (.lst xs)
  | _, _ => False
def meS (m : Me) (o : D) (ds : List D) (S : Sto) (Q : QV) : Prop :=
  match m, o, ds with
  | .join, .str sep, [d] => ∃ (xs : List D) (ss : List (List Nat)), seqOf S d = some xs ∧ xs = ss.map D.str ∧ (ss.map List.length).sum + ss.length * sep.length ≤ lim ∧ Q (.str (jn sep ss)) S
  | .append, .obj a, [d] => ∃ xs, S a = some (.lst xs) ∧ xs.length < lim ∧ Q .non (S.set a (.lst (xs ++ [d])))
  | .extend, .obj a, [d] => ∃ xs ys, S a = some (.lst xs) ∧ seqOf S d = some ys ∧ xs.length + ys.length ≤ lim ∧ Q .non (S.set a (.lst (xs ++ ys)))
  | .count, d, [x] => ∃ xs, seqL S d = some xs ∧ flat x = true ∧ xs.all flat = true ∧ Q (.int (xs.countP fun z => beq z x)) S
  | .index, d, [x] => ∃ xs, seqL S d = some xs ∧ flat x = true ∧ xs.all flat = true ∧ (xs.any fun z => beq z x) = true ∧ Q (.int (xs.findIdx fun z => beq z x)) S
  | .remove, .obj a, [x] => ∃ xs, S a = some (.lst xs) ∧ xs.length ≤ lim ∧ plains xs = true ∧ plain x = true ∧ depths xs ≤ 60 ∧ (xs.any fun z => beq z x) = true ∧ Q .non (S.set a (.lst (xs.eraseIdx (xs.findIdx fun z => beq z x))))
  | .insert, .obj a, [.int i, d] => ∃ xs, S a = some (.lst xs) ∧ xs.length < lim ∧ 0 ≤ i ∧ i < 2 ^ 62 ∧ Q .non (S.set a (.lst (xs.take i.toNat ++ [d] ++ xs.drop i.toNat)))
  | .popAt, .obj a, [.int i] => i = 0 ∧ ∃ y xs, S a = some (.lst (y :: xs)) ∧ Q y (S.set a (.lst xs))
  | _, _, _ => False
/-- sorted(set(x)) of texts -/
def ssetS (fz : Bool) (x : D) (S : Sto) (Q : QV) : Prop := (∃ zs : List (List Nat), itemsOf S x = some (zs.map D.str) ∧ zs.length < 4000 ∧ newL fz ((sortU zs).map D.str) S Q) ∨ ∃ is : List Int, seqOf S x = some (is.map .int) ∧ smI is ∧ newL fz ((sortI is).map .int) S Q
/-- two own instances are held against each other by the class's own __eq__ -/
def ocmpS (T : Tab) (ne : Bool) (C : Str) (x y : D) (S : Sto) (Q : QV) : Prop := ∃ φ, T.me C "__eq__" = some φ ∧ (∃ fs, insOf S x = some (C, fs)) ∧ (∃ fs, insOf S y = some (C, fs)) ∧ φ [x, y] S (fun d S1 => ∃ b : Bool, d = .bl b ∧ Q (.bl (b != ne)) S1) (fun _ _ => False)
/-! repr of anything -/
mutual
def toPyR : D → PyData
  | .tup xs => .tuple (toPyRs xs)
  | .dct _ _ => .dict []
  | .non => .none
  | .bl b => .bool b
  | .int i => .int i
  | .str s => .str (mkS s)
  | .lst _ | .lsk _ | .obj _ | .ty _ | .gl _ | .ins _ _ _ | .exn _ _ _ => .none
def toPyRs : List D → List PyData
  | [] => []
  | d :: ds => toPyR d :: toPyRs ds
end
mutual
/-- signs, numbers, empty dicts, tuples of such -/
def rokT : D → Bool
  | .tup xs => rokTs xs
  | .dct ks vs => ks.isEmpty && vs.isEmpty
  | .non | .bl _ | .int _ | .str _ => true
  | .lst _ | .lsk _ | .obj _ | .ty _ | .gl _ | .ins _ _ _ | .exn _ _ _ => false
def rokTs : List D → Bool
  | [] => true
  | d :: ds => rokT d && rokTs ds
end
def pyR (d : D) : PyData := if plain d = true then toPy d else toPyR d
def rprB (d : D) : Bool := (plain d || rokT d) && ((pyR d).showable && decide ((pyR d).depth ≤ 64))
def rprD (d : D) : List Nat := (pyR d).shown.cps.toList
def rpFld : Option D → Option (List Nat)
  | some (.int i) => if i.natAbs < 10 ^ 9 then some (digits i) else none
  | _ => none
def rpLen (S : Sto) : Option D → Option (List Nat)
  | some d => (match seqOf S d with
    | some xs => if xs.length < 10 ^ 9 then some (digits (xs.length : Int)) else none
    | none => none)
  | none => none
def rpD (S : Sto) (fs : List (Str × D)) : Rpt → Option (List Nat)
  | .txt s => if (s.all fun c => decide (c < 0x110000)) = true then some s else none
  | .fld f => rpFld (fs.lookup f)
  | .len f => rpLen S (fs.lookup f)
def rpsD (S : Sto) (fs : List (Str × D)) : List Rpt → Option (List Nat)
  | [] => some []
  | p :: r => match rpD S fs p, rpsD S fs r with
    | some a, some b => some (a ++ b)
    | _, _ => none
def rprI (T : Tab) (S : Sto) (y : D) : Option (List Nat) := match insOf S y with
  | some (C, fs) => (match T.rp C with
    | some ps => rpsD S fs ps
    | none => none)
  | none => none
def rprV (T : Tab) (S : Sto) (x : D) : Option (List Nat) :=
  if rprB x = true then some (rprD x) else match x with
  | .tup [y] => (rprI T S y).map fun z => 40 :: (z ++ [44, 41])
  | .lst [y] => (rprI T S y).map fun z => 91 :: (z ++ [93])
  | x => rprI T S x
def rprS (T : Tab) (x : D) (S : Sto) (Q : QV) : Prop := ∃ z, rprV T S x = some z ∧ z.length ≤ lim ∧ Q (.str z) S
/-- a text or a number in an f-string -/
def txtD : D → Option (List Nat)
  | .str s => some s
  | .int i => if i.natAbs < 10 ^ 9 then some (digits i) else none
  | _ => none
/-- a row turned about -/
def revS (fz : Bool) (x : D) (S : Sto) (Q : QV) : Prop :=
  match x with
  | .tup xs => Q (.tup xs.reverse) S
  | x => ∃ xs, seqOf S x = some xs ∧ newL fz xs.reverse S Q
/-- each so many-th of a row -/
def stepL {α : Type} (n : Nat) (xs : List α) : List α := (List.range (if 0 < xs.length then (xs.length - 1) / n + 1 else 0)).filterMap fun k => xs[k * n]?
def stpS (x y : D) (S : Sto) (Q : QV) : Prop :=
  match x, y with
  | .tup xs, .int k => 0 < k ∧ Q (.tup (stepL k.toNat xs)) S
  | _, _ => False
/-- a row again and again -/
def replS (fz : Bool) (ds : List D) (y : D) (S : Sto) (Q : QV) : Prop := ∃ k : Int, y = .int k ∧ -(2 ^ 63) ≤ k ∧ k < 2 ^ 63 ∧ ds.length * k.toNat ≤ lim ∧ newL fz (List.replicate k.toNat ds).flatten S Q
/-- the values of a call with names, in the def's turn -/
def pick (pl : List (Nat ⊕ D)) (ds : List D) : List D := pl.map fun q => match q with | .inl j => ds.getD j .non | .inr d => d
/-- the kind of a thing -/
def kindOf (S : Sto) : D → Option Kd
  | .non => some (.b "NoneType")
  | .bl _ => some (.b "bool")
  | .int _ => some (.b "int")
  | .str _ => some (.b "str")
  | .tup _ => some (.b "tuple")
  | .lst _ => some (.b "list")
  | .obj a => match S a with | some (.lst _) => some (.b "list") | some (.dct _) => some (.b "dict") | some (.ins C _) => some (.o C) | none => none
  | .ins C _ _ => some (.o C)
  | .dct _ _ => some (.b "dict")
  | _ => none
def isiB : Kd → Kd → Bool
  | .b k, .b t => k == t || (k == "bool" && t == "int")
  | .o k, .o t => k == t
  | _, _ => false
def kdN : List String := ["NoneType", "bool", "int", "str", "tuple", "list", "dict"]
/-- the classes whose things are asked for their kind -/
def clN : List Str := ["Board", "Wall", "Desk"]
def kOk : Kd → Bool
  | .b n => kdN.contains n
  | .o C => clN.contains C
def tOk : Kd → Bool
  | .b n => biTys.contains n
  | .o C => clN.contains C
def tyOk (T : Tab) : Kd → Prop
  | .b _ => True
  | .o C => (∃ f, f ∈ T.flds C) ∧ clN.contains C = true
def rngS (ds : List D) (S : Sto) (Q : List D → (Sto → Prop) → Sto → Prop) : Prop := match ds with
  | [.int n] => (-(2 ^ 62) ≤ n ∧ n < 2 ^ 62) ∧ Q ((List.range n.toNat).map fun (k : Nat) => .int (0 + k)) (fun _ => True) S
  | [.int a, .int b] => (-(2 ^ 62) ≤ a ∧ a < 2 ^ 62 ∧ -(2 ^ 62) ≤ b ∧ b < 2 ^ 62) ∧ Q ((List.range (b - a).toNat).map fun (k : Nat) => .int (a + k)) (fun _ => True) S
  | [.int a, .int b, .int c] => ∃ n, RgC a b c n ∧ Q ((List.range n).map fun (k : Nat) => .int (a + k * c)) (fun _ => True) S
  | _ => False
/-- what was made stays as it is from here on -/
def frz (fz : Bool) (a : Addr) (C : Str) (S : Sto) (Q : QV) : Prop := if fz = true then ∃ fs, S a = some (.ins C fs) ∧ Q (.ins C (fs.map (·.1)) (fs.map (·.2))) (S.del a) else Q (.obj a) S
def newDc (fz : Bool) (a : Addr) (kvs : List (D × D)) (S : Sto) (Q : QV) : Prop := if fz = true then Q (.dct (kvs.map (·.1)) (kvs.map (·.2))) (S.del a) else Q (.obj a) (S.set a (.dct kvs))
/-- an error's class under one of these -/
def xsAny (T : Tab) : List Str → Str → Option Bool
  | [], _ => some false
  | C :: r, x => match T.xs x C, xsAny T r x with
    | some a, some b => some (a || b)
    | _, _ => none
/-- what an error's word is made of -/
def strOk (s : Bool) (d : D) : Prop := s = true → (∃ z, d = .str z ∧ z.length ≤ 1000) ∨ ∃ i, d = .int i ∧ i.natAbs < 10 ^ 9
/-! ### the wishes -/
/-- a value's wish and a test's -/
structure WP where
  v : Sl → Sto → QV → Prop
  t : Sl → Sto → (Bool → Sto → Prop) → Prop
def mkV (v : Sl → Sto → QV → Prop) : WP := ⟨v, fun ρ S Q => v ρ S fun d S1 => ∃ b, truD S1 d = some b ∧ Q b S1⟩
mutual
/-- a target takes a value -/
def wG : Tg → D → Sl → (Sl → Prop) → Prop
  | .name i, d, ρ, Q => Q (ρ.set i (some d))
  | .tup r, d, ρ, Q => match d with | .tup xs => wGs r xs ρ Q | _ => False
def wGs : Tgs → List D → Sl → (Sl → Prop) → Prop
  | .nil, ds, ρ, Q => ds = [] ∧ Q ρ
  | .cons t r, ds, ρ, Q => match ds with | d :: ds => wG t d ρ fun ρ1 => wGs r ds ρ1 Q | [] => False
end
/-- a list is made, item by item -/
def wLc (set : D → Sl → (Sl → Prop) → Prop) (test : Sl → Sto → (Bool → Sto → Prop) → Prop) (elt : Sl → Sto → QV → Prop) (same : Sto → Prop) (ρ : Sl) : List D → List D → Sto → (List D → Sto → Prop) → Prop
  | [], acc, S, Q => same S ∧ Q acc S
  | d :: ds, acc, S, Q => same S ∧ set d ρ fun ρ1 => test ρ1 S fun b S1 =>
      if b = true then elt ρ1 S1 fun y S2 => acc.length < lim ∧ wLc set test elt same ρ ds (acc ++ [y]) S2 Q else wLc set test elt same ρ ds acc S1 Q
/-- a dict is made, pair by pair -/
def wDc (set : D → Sl → (Sl → Prop) → Prop) (test : Sl → Sto → (Bool → Sto → Prop) → Prop) (kx vx : Sl → Sto → QV → Prop) (same : Sto → Prop) (ρ : Sl) : List D → List (D × D) → Sto → (List (D × D) → Sto → Prop) → Prop
  | [], acc, S, Q => same S ∧ Q acc S
  | d :: ds, acc, S, Q => same S ∧ set d ρ fun ρ1 => test ρ1 S fun b S1 =>
      if b = true then kx ρ1 S1 fun x S2 => vx ρ1 S2 fun y S3 => (toKey x).isSome = true ∧ acc.length < lim ∧ wDc set test kx vx same ρ ds (putKD acc x y) S3 Q else wDc set test kx vx same ρ ds acc S1 Q
/-- what is gone through must stand still -/
def still (d : D) (S0 : Sto) (S : Sto) : Prop := match d with | .obj a => S a = S0 a | _ => True
mutual
def tgSlots : Tg → List Nat
  | .name i => [i]
  | .tup r => tgsSlots r
def tgsSlots : Tgs → List Nat
  | .nil => []
  | .cons t r => tgSlots t ++ tgsSlots r
end
def wipeD (ρ : Sl) : List Nat → Sl
  | [] => ρ
  | v :: vs => (wipeD ρ vs).set v none
section
variable (T : Tab)
mutual
def wX : E → QE → WP
  | .loc i, ex => mkV fun ρ S Q => ∃ d, ρ[i]? = some (some d) ∧ Q d S
  | .const d, ex => mkV fun _ S Q => Q d S
  | .glob x, ex => mkV fun _ S Q => ∃ d, T.con x = some d ∧ Q d S
  | .bin op a b, ex => mkV fun ρ S Q => (wX a ex).v ρ S fun x S1 => (wX b ex).v ρ S1 fun y S2 => opS op x y S2 Q
  | .neg a, ex => mkV fun ρ S Q => (wX a ex).v ρ S fun x S1 => match x with | .int i => Q (.int (-i)) S1 | _ => False
  | .cmp op a b, ex => mkV fun ρ S Q => (wX a ex).v ρ S fun x S1 => (wX b ex).v ρ S1 fun y S2 => cmpS op x y S2 Q
  | .cmp2 op op' a b c, ex => mkV fun ρ S Q => (wX a ex).v ρ S fun x S1 => (wX b ex).v ρ S1 fun y S2 => cmpS op x y S2 fun z S3 => ∃ k, z = .bl k ∧ if k = true then (wX c ex).v ρ S3 fun u S4 => cmpS op' y u S4 Q else Q (.bl false) S3
  | .bool op es, ex => wB op es ex
  | .not a, ex => ⟨fun ρ S Q => (wX a ex).v ρ S fun d S1 => ∃ b, truD S1 d = some b ∧ Q (.bl (!b)) S1, fun ρ S Q => (wX a ex).t ρ S fun b S1 => Q (!b) S1⟩
  | .ite t a b, ex => ⟨fun ρ S Q => (wX t ex).t ρ S fun k S1 => if k = true then (wX a ex).v ρ S1 Q else (wX b ex).v ρ S1 Q, fun _ _ _ => False⟩
  | .call f es df, ex => mkV fun ρ S Q => T.dfs f df ∧ ∃ φ, T.fn f = some φ ∧ wEs es ex ρ S fun ds S1 => φ (ds ++ df) S1 Q (ex ρ)
  | .callk f es ks kes pl, ex => mkV fun ρ S Q => ∃ φ, T.fn f = some φ ∧ T.kw f (esLen es) ks = some pl ∧ wEs es ex ρ S fun ds S1 => wEs kes ex ρ S1 fun us S2 => ds.length = esLen es ∧ us.length = ks.length ∧ φ (pick pl (ds ++ us)) S2 Q (ex ρ)
  | .make fz C es df, ex => mkV fun ρ S Q => T.dfs C df ∧ ∃ φ, T.me C ini = some φ ∧ wEs es ex ρ S fun ds S1 => ∀ a, S1 a = none → φ (.obj a :: (ds ++ df)) (S1.set a (.ins C [])) (fun d S2 => d = .non ∧ frz fz a C S2 Q) (ex ρ)
  | .bi fz b es, ex => mkV fun ρ S Q => wEs es ex ρ S fun ds S1 => biS fz b ds S1 Q
  | .isi a t, ex => mkV fun ρ S Q => tyOk T t ∧ (wX a ex).v ρ S fun x S1 => ∃ k, kindOf S1 x = some k ∧ kOk k = true ∧ Q (.bl (isiB k t)) S1
  | .meth m o es, ex => mkV fun ρ S Q => (wX o ex).v ρ S fun x S1 => meT m x S1 ∧ wEs es ex ρ S1 fun ds S2 => meS m x ds S2 Q
  | .own o C m es, ex => mkV fun ρ S Q => ∃ φ, T.me C m = some φ ∧ (wX o ex).v ρ S fun x S1 => ∃ fs, insOf S1 x = some (C, fs) ∧ fs.lookup m = none ∧ wEs es ex ρ S1 fun ds S2 => φ (x :: ds) S2 Q (ex ρ)
  | .attr o f, ex => mkV fun ρ S Q => (wX o ex).v ρ S fun x S1 => ∃ C fs d, insOf S1 x = some (C, fs) ∧ f ∈ T.flds C ∧ fs.lookup f = some d ∧ Q d S1
  | .sub o i, ex => mkV fun ρ S Q => (wX o ex).v ρ S fun x S1 => (wX i ex).v ρ S1 fun y S2 => subS x y S2 Q
  | .sl o lo hi, ex => mkV fun ρ S Q => (wX o ex).v ρ S fun x S1 => wO lo ex ρ S1 fun l S2 => wO hi ex ρ S2 fun h S3 => slS x l h S3 Q
  | .tup es, ex => mkV fun ρ S Q => wEs es ex ρ S fun ds S1 => ds.length ≤ lim ∧ Q (.tup ds) S1
  | .lst fz es, ex => mkV fun ρ S Q => wEs es ex ρ S fun ds S1 => ds.length ≤ lim ∧ newL fz ds S1 Q
  | .lc fz elt tg it ifs, ex => mkV fun ρ S Q => wI it ex ρ S fun ds same S1 =>
      wLc (wG tg) (wTo ifs fun _ _ _ => False) (fun ρ S Q => (wX elt fun _ _ _ => False).v ρ S Q) same (wipeD ρ (tgSlots tg)) ds [] S1 fun ys S2 => newL fz ys S2 Q
  | .bad, ex => ⟨fun _ _ _ => False, fun _ _ _ => False⟩
  | .sset fz a, ex => mkV fun ρ S Q => (wX a ex).v ρ S fun x S1 => ssetS fz x S1 Q
  | .repl fz es b, ex => mkV fun ρ S Q => wEs es ex ρ S fun ds S1 => ds.length ≤ lim ∧ (wX b ex).v ρ S1 fun y S2 => replS fz ds y S2 Q
  | .dct fz ps, ex => mkV fun ρ S Q => ∀ a, S a = none → wPs ps ex ρ (S.set a (.dct [])) fun kvs S1 => S1 a = some (.dct []) ∧ kvs.length ≤ 15 ∧ (kvs.map (·.1)).all (fun d => (toKey d).isSome) = true ∧ (kvs.map fun p => toKey p.1).Nodup ∧ newDc fz a kvs S1 Q
  | .dc fz kx vx tg it ifs, ex => mkV fun ρ S Q => wI it ex ρ S fun ds same S1 =>
      wDc (wG tg) (wTo ifs fun _ _ _ => False) (fun ρ S Q => (wX kx fun _ _ _ => False).v ρ S Q) (fun ρ S Q => (wX vx fun _ _ _ => False).v ρ S Q) same (wipeD ρ (tgSlots tg)) ds [] S1 fun kvs S2 => ∀ a, S2 a = none → newDc fz a kvs S2 Q
  | .rngT es, ex => mkV fun ρ S Q => wEs es ex ρ S fun ds S1 => rngS ds S1 fun xs _ S2 => xs.length ≤ lim ∧ Q (.tup xs) S2
  | .hcall f es, ex => mkV fun ρ S Q => T.hot f = true ∧ T.dfs f [] ∧ ∃ φ, T.fn f = some φ ∧ wEs es ex ρ S fun ds S1 => φ ds S1 Q (ex ρ)
  | .isx a C, ex => mkV fun ρ S Q => (∃ C0 b0, T.xs C0 C = some b0) ∧ (wX a ex).v ρ S fun x S1 => ∃ C' ns vs b, x = .exn C' ns vs ∧ T.xs C' C = some b ∧ Q (.bl b) S1
  | .isxs a Cs, ex => mkV fun ρ S Q => (∀ C ∈ Cs, ∃ C0 b0, T.xs C0 C = some b0) ∧ Cs.length ≤ lim ∧ (wX a ex).v ρ S fun x S1 => ∃ C' ns vs b, x = .exn C' ns vs ∧ xsAny T Cs C' = some b ∧ Q (.bl b) S1
  | .xattr o f, ex => mkV fun ρ S Q => (wX o ex).v ρ S fun x S1 => ∃ C s vs d, x = .exn C [f] vs ∧ vs = [d] ∧ T.xc C = some (some f, s) ∧ Q d S1
  | .cat fz a b, ex => mkV fun ρ S Q => (wX a ex).v ρ S fun x S1 => (wX b ex).v ρ S1 fun y S2 => ∃ xs ys, seqL S2 x = some xs ∧ seqL S2 y = some ys ∧ xs.length + ys.length ≤ lim ∧ newL fz (xs ++ ys) S2 Q
  | .rngL fz es, ex => mkV fun ρ S Q => wEs es ex ρ S fun ds S1 => rngS ds S1 fun xs _ S2 => xs.length ≤ lim ∧ newL fz xs S2 Q
  | .rpr a, ex => mkV fun ρ S Q => (wX a ex).v ρ S fun x S1 => rprS T x S1 Q
  | .oeq ne C a b, ex => mkV fun ρ S Q => (ne = true → T.spc C = true) ∧ (wX a ex).v ρ S fun x S1 => (wX b ex).v ρ S1 fun y S2 => ocmpS T ne C x y S2 Q
/-- the pairs of a dict's display -/
def wPs : Ep → QE → Sl → Sto → (List (D × D) → Sto → Prop) → Prop
  | .nil, _, _, S, Q => Q [] S
  | .cons k v r, ex, ρ, S, Q => (wX k ex).v ρ S fun x S1 => (wX v ex).v ρ S1 fun y S2 => wPs r ex ρ S2 fun ps S3 => Q ((x, y) :: ps) S3
def wB : BoolOp → Es → QE → WP
  | op, .nil, ex => ⟨fun _ _ _ => False, fun _ S Q => Q (match op with | .And => true | .Or => false) S⟩
  | op, .cons a r, ex => ⟨fun ρ S Q => (wX a ex).v ρ S fun x S1 => match r with
      | .nil => Q x S1
      | .cons _ _ => ∃ k, truD S1 x = some k ∧ (match op, k with
        | .And, false => Q x S1
        | .Or, true => Q x S1
        | _, _ => (wB op r ex).v ρ S1 Q),
    fun ρ S Q => (wX a ex).t ρ S fun k S1 => match op, k with
      | .And, false => Q false S1
      | .Or, true => Q true S1
      | _, _ => (wB op r ex).t ρ S1 Q⟩
def wFs : Es → QE → List Nat → Sl → Sto → (List Nat → Sto → Prop) → Prop
  | .nil, _, acc, _, S, Q => Q acc S
  | .cons e r, ex, acc, ρ, S, Q => (wX e ex).v ρ S fun d S1 => ∃ s, txtD d = some s ∧ acc.length + s.length ≤ lim ∧ wFs r ex (acc ++ s) ρ S1 Q
def wEs : Es → QE → Sl → Sto → (List D → Sto → Prop) → Prop
  | .nil, _, _, S, Q => Q [] S
  | .cons e r, ex, ρ, S, Q => (wX e ex).v ρ S fun d S1 => wEs r ex ρ S1 fun ds S2 => Q (d :: ds) S2
def wO : Eo → QE → Sl → Sto → (Option Int → Sto → Prop) → Prop
  | .no, _, _, S, Q => Q none S
  | .yes e, ex, ρ, S, Q => (wX e ex).v ρ S fun d S1 => match d with | .int i => Q (some i) S1 | _ => False
def wTo : Eo → QE → Sl → Sto → (Bool → Sto → Prop) → Prop
  | .no, _, _, S, Q => Q true S
  | .yes e, ex, ρ, S, Q => (wX e ex).t ρ S Q
def wI : It → QE → Sl → Sto → (List D → (Sto → Prop) → Sto → Prop) → Prop
  | .seq e, ex, ρ, S, Q => (wX e ex).v ρ S fun d S1 => ∃ ds, itemsOf S1 d = some ds ∧ Q ds (still d S1) S1
  | .range es, ex, ρ, S, Q => wEs es ex ρ S fun ds S1 => rngS ds S1 Q
  | .enum e, ex, ρ, S, Q => (wX e ex).v ρ S fun d S1 => ∃ ds, itemsOf S1 d = some ds ∧ Q (ds.zipIdx.map fun p => .tup [.int p.2, p.1]) (still d S1) S1
  | .zip a b, ex, ρ, S, Q => (wX a ex).v ρ S fun x S1 => (wX b ex).v ρ S1 fun y S2 => ∃ xs ys, itemsOf S2 x = some xs ∧ itemsOf S2 y = some ys ∧ Q ((xs.zip ys).map fun p => .tup [p.1, p.2]) (fun S => still x S2 S ∧ still y S2 S) S2
end
/-! ### statements -/
structure Nd where
  nx : Sl → Sto → Prop
  rt : QV
  bk : Sl → Sto → Prop
  ct : Sl → Sto → Prop
end
mutual
/-- a place to store in -/
inductive Lh where
  | name (i : Nat) | tup (r : Lhs) | attr (o : E) (f : Str) | sub (o i : E) | tupS (fz : Bool) (n : Nat) (r : Lhs)
inductive Lhs where
  | nil | cons (t : Lh) (r : Lhs)
end
mutual
inductive St where
  | expr (e : E) | ret (e : E) | retN | pass | brk | cont
  | asg (t : Lh) (e : E)
  | par (i j : Nat) (a b : E) | par3 (i j l : Nat) (a b c : E)
  | ife (t : E) (a b : Ss)
  | for (t : Tg) (it : It) (b : Ss)
  | raise (C : Str) (es : Es) | bad | whl (t : E) (b : Ss) | tri (b : Ss) (h : Hs)
inductive Ss where
  | nil | cons (s : St) (r : Ss)
inductive Hs where
  | nil | cons (cs : List Str) (i : Option Nat) (b : Ss) (r : Hs)
end
/-- all classes that clauses name -/
def hsCs : Hs → List Str
  | .nil => []
  | .cons cs _ _ r => cs ++ hsCs r
def lhsLen : Lhs → Nat
  | .nil => 0
  | .cons _ r => lhsLen r + 1
def putD (f : Str) (d : D) : List (Str × D) → List (Str × D)
  | [] => [(f, d)]
  | (x, y) :: r => if x = f then (x, d) :: r else (x, y) :: putD f d r
section
variable (T : Tab)
mutual
def wL (ex : QE) : Lh → D → Sl → Sto → (Sl → Sto → Prop) → Prop
  | .name i, d, ρ, S, Q => Q (ρ.set i (some d)) S
  | .tup r, d, ρ, S, Q => ∃ xs, seqOf S d = some xs ∧ xs.length = lhsLen r ∧ wLs ex r xs ρ S Q
  | .tupS fz n r, d, ρ, S, Q => ∃ xs, seqOf S d = some xs ∧ lhsLen r ≤ xs.length + 1 ∧ n < lhsLen r ∧ xs.length ≤ 16384 ∧ newL fz ((xs.drop n).take (xs.length + 1 - lhsLen r)) S fun l S1 => wLs ex r (xs.take n ++ [l] ++ (xs.drop n).drop (xs.length + 1 - lhsLen r)) ρ S1 Q
  | .attr o f, d, ρ, S, Q => (wX T o ex).v ρ S fun x S1 => ∃ a C fs, x = .obj a ∧ S1 a = some (.ins C fs) ∧ f ∈ T.flds C ∧ fs.length < 900 ∧ Q ρ (S1.set a (.ins C (putD f d fs)))
  | .sub o i, d, ρ, S, Q => (wX T o ex).v ρ S fun x S1 => (wX T i ex).v ρ S1 fun y S2 => putS S2 x y d fun S3 => Q ρ S3
def wLs (ex : QE) : Lhs → List D → Sl → Sto → (Sl → Sto → Prop) → Prop
  | .nil, ds, ρ, S, Q => ds = [] ∧ Q ρ S
  | .cons t r, ds, ρ, S, Q => match ds with | d :: ds => wL ex t d ρ S fun ρ1 S1 => wLs ex r ds ρ1 S1 Q | [] => False
end
def wFor (set : D → Sl → (Sl → Prop) → Prop) (body : Sl → Sto → Nd → Prop) (same : Sto → Prop) (N : Nd) : List D → Sl → Sto → Prop
  | [], ρ, S => same S ∧ N.nx ρ S
  | d :: ds, ρ, S => same S ∧ set d ρ fun ρ1 => body ρ1 S { nx := fun ρ2 S2 => wFor set body same N ds ρ2 S2, rt := N.rt, bk := N.nx, ct := fun ρ2 S2 => wFor set body same N ds ρ2 S2 }
mutual
def wS : St → QE → Sl → Sto → Nd → Prop
  | .expr e, ex, ρ, S, N => (wX T e ex).v ρ S fun _ S1 => N.nx ρ S1
  | .ret e, ex, ρ, S, N => (wX T e ex).v ρ S N.rt
  | .retN, ex, _, S, N => N.rt .non S
  | .pass, ex, ρ, S, N => N.nx ρ S
  | .brk, ex, ρ, S, N => N.bk ρ S
  | .cont, ex, ρ, S, N => N.ct ρ S
  | .asg t e, ex, ρ, S, N => (wX T e ex).v ρ S fun d S1 => wL T ex t d ρ S1 N.nx
  | .par i j a b, ex, ρ, S, N => (wX T a ex).v ρ S fun x S1 => (wX T b ex).v ρ S1 fun y S2 => N.nx ((ρ.set i (some x)).set j (some y)) S2
  | .par3 i j l a b c, ex, ρ, S, N => (wX T a ex).v ρ S fun x S1 => (wX T b ex).v ρ S1 fun y S2 => (wX T c ex).v ρ S2 fun z S3 => N.nx (((ρ.set i (some x)).set j (some y)).set l (some z)) S3
  | .ife t a b, ex, ρ, S, N => (wX T t ex).t ρ S fun k S1 => if k = true then wSs a ex ρ S1 N else wSs b ex ρ S1 N
  | .for t it b, ex, ρ, S, N => wI T it ex ρ S fun ds same S1 => wFor (wG t) (fun ρ S N => wSs b ex ρ S N) same N ds ρ S1
  | .raise C es, ex, ρ, S, N => ∃ f s, T.xc C = some (f, s) ∧ wEs T es ex ρ S fun ds S1 => (match f, ds with
    | some f, [d] => strOk s d ∧ ex ρ ⟨C, [f], [d]⟩ S1
    | none, [] => ex ρ ⟨C, [], []⟩ S1
    | _, _ => False)
  | .bad, _, _, _, _ => False
  | .whl t b, ex, ρ, S, N => ∃ W : Nat → Sl → Sto → Prop, (∃ m, W m ρ S) ∧ ∀ m ρ S, W m ρ S → (wX T t ex).t ρ S fun k S1 =>
      if k = true then wSs b ex ρ S1 { N with nx := fun ρ' S' => ∃ m', m' < m ∧ W m' ρ' S', ct := fun ρ' S' => ∃ m', m' < m ∧ W m' ρ' S', bk := N.nx } else N.nx ρ S1
  | .tri b h, ex, ρ, S, N => (∀ C ∈ hsCs h, ∃ C0 b0, T.xs C0 C = some b0) ∧ wSs b (fun ρ1 e S1 => wHs h ex ρ1 e S1 N) ρ S N
def wHs : Hs → QE → Sl → Exn → Sto → Nd → Prop
  | .nil, ex, ρ, e, S, _ => ex ρ e S
  | .cons cs i b r, ex, ρ, e, S, N => ∃ k, xsAny T cs e.cls = some k ∧ if k = true then wSs b (fun _ _ _ => False) (match i with | some i => ρ.set i (some (.exn e.cls e.ns e.vs)) | none => ρ) S
      { nx := fun ρ S => N.nx (match i with | some i => ρ.set i none | none => ρ) S, rt := N.rt, bk := fun ρ S => N.bk (match i with | some i => ρ.set i none | none => ρ) S, ct := fun ρ S => N.ct (match i with | some i => ρ.set i none | none => ρ) S }
    else wHs r ex ρ e S N
def wSs : Ss → QE → Sl → Sto → Nd → Prop
  | .nil, ex, ρ, S, N => N.nx ρ S
  | .cons s r, ex, ρ, S, N => wS s ex ρ S { N with nx := fun ρ1 S1 => wSs r ex ρ1 S1 N }
end
/-- fewer objects are told of -/
def Sub (S' S : Sto) : Prop := ∀ a o, S' a = some o → S a = some o
/-- a def: n names in all, its body -/
def wFn (n : Nat) (b : Ss) : FSp := fun ds S Q ex => wSs T b (fun _ e S1 => ∃ S2, Sub S2 S1 ∧ ex e S2) (ds.map some ++ List.replicate (n - ds.length) none) S
  { nx := fun _ S1 => ∃ S2, Sub S2 S1 ∧ Q .non S2, rt := fun d S1 => ∃ S2, Sub S2 S1 ∧ Q d S2, bk := fun _ _ => False, ct := fun _ _ => False }
end
end G
/-! G2: the wishes as readings of the hand layer; operators. -/
namespace G
open PySem L2
section
variable (g : Gx)
/-- what is wanted of a value and a heap, by data and store -/
def Cont (S : Sto) (H : Hp) (Qd : QV) (Q : VK) : Prop := ∀ v d S' H', RD g S' H' d v → RS g S' H' → Step S H S' H' → Qd d S' → Q v H'
def ContB (S : Sto) (H : Hp) (Qd : Bool → Sto → Prop) (Q : Bool → Hp → Prop) : Prop := ∀ b S' H', RS g S' H' → Step S H S' H' → Qd b S' → Q b H'
def ContA (S : Sto) (H : Hp) (Qd : List D → Sto → Prop) (Q : List V → Hp → Prop) : Prop := ∀ vs ds S' H', RDs g S' H' ds vs → RS g S' H' → Step S H S' H' → Qd ds S' → Q vs H'
def ContX (S : Sto) (H : Hp) (Xd : QX) (E : XK) : Prop := ∀ e c dd S' H', RX g S' H' e c dd → RS g S' H' → Step S H S' H' → Xd e S' → E c dd H'
def EX (ex : QX) (S0 : Sto) (H0 : Hp) : XK := fun c dd H' => ∃ e S', RX g S' H' e c dd ∧ RS g S' H' ∧ Step S0 H0 S' H' ∧ ex e S'
/-- slots, store, heap -/
structure Rl (S0 : Sto) (H0 : Hp) (ρ : Sl) (S : Sto) (σ : L2.St) (H : Hp) : Prop where
  len : ρ.length = σ.length
  sl : ∀ (i : Nat) (d : D), ρ[i]? = some (some d) → ∃ v, σ[i]? = some (some v) ∧ RD g S H d v
  rs : RS g S H
  st : Step S0 H0 S H
def RE (S0 : Sto) (H0 : Hp) (w : Sl → Sto → QV → Prop) : TE := fun σ H Q => ∃ ρ S Qd, Rl g S0 H0 ρ S σ H ∧ w ρ S Qd ∧ Cont g S H Qd Q
def RT (S0 : Sto) (H0 : Hp) (w : Sl → Sto → (Bool → Sto → Prop) → Prop) : TT := fun σ H Q => ∃ ρ S Qd, Rl g S0 H0 ρ S σ H ∧ w ρ S Qd ∧ ContB g S H Qd Q
def RA (S0 : Sto) (H0 : Hp) (w : Sl → Sto → (List D → Sto → Prop) → Prop) : TA := fun σ H Q => ∃ ρ S Qd, Rl g S0 H0 ρ S σ H ∧ w ρ S Qd ∧ ContA g S H Qd Q
/-- a two-place operation, by data -/
def R2d (o : D → D → Sto → QV → Prop) : R2 := fun x y H Q => ∃ d1 d2 S Qd, RD g S H d1 x ∧ RD g S H d2 y ∧ RS g S H ∧ o d1 d2 S Qd ∧ Cont g S H Qd Q
def RCd (o : List D → Sto → QV → Prop) : List V → Hp → VK → Prop := fun vs H Q => ∃ ds S Qd, RDs g S H ds vs ∧ RS g S H ∧ o ds S Qd ∧ Cont g S H Qd Q
end
section
variable {g : Gx} {S S0 S1 S' : Sto} {H H0 H1 H' : Hp} {ρ : Sl} {σ : L2.St}
theorem Rl.step (r : Rl g S0 H0 ρ S σ H) (rs : RS g S' H') (st : Step S H S' H') : Rl g S0 H0 ρ S' σ H' :=
  ⟨r.len, fun i d e => let ⟨v, h1, h2⟩ := r.sl i d e; ⟨v, h1, h2.mono st⟩, rs, r.st.trans st⟩
theorem Cont.from {Qd : QV} {Q : VK} (k : Cont g S H Qd Q) (st : Step S H S1 H1) : Cont g S1 H1 Qd Q := fun v d S' H' rd rs s q => k v d S' H' rd rs (st.trans s) q
theorem ContB.from {Qd : Bool → Sto → Prop} {Q : Bool → Hp → Prop} (k : ContB g S H Qd Q) (st : Step S H S1 H1) : ContB g S1 H1 Qd Q := fun b S' H' rs s q => k b S' H' rs (st.trans s) q
theorem ContA.from {Qd : List D → Sto → Prop} {Q : List V → Hp → Prop} (k : ContA g S H Qd Q) (st : Step S H S1 H1) : ContA g S1 H1 Qd Q := fun v d S' H' rd rs s q => k v d S' H' rd rs (st.trans s) q
theorem Cont.here {Qd : QV} {Q : VK} {d : D} {v : V} (k : Cont g S H Qd Q) (rs : RS g S H) (rd : RD g S H d v) (q : Qd d S) : Q v H := k v d S H rd rs (Step.refl S H) q
theorem RD.newT {ds : List D} {vs : List V} {p : Addr} (rs : RS g S H) (r : RDs g S H ds vs) (hp : H p = none) : RD g S (upd H p (.tup vs)) (.tup ds) (.ref p) := by
  unfold RD
  exact ⟨p, vs, rfl, .inl ⟨rs.free hp, rs.fresh hp, .inl upd_same⟩, r.mono (rs.frozen hp).2⟩
theorem RD.newF {ds : List D} {vs : List V} {p : Addr} (rs : RS g S H) (r : RDs g S H ds vs) (hp : H p = none) : RD g S (upd H p (.lst vs)) (.lst ds) (.ref p) := by
  unfold RD
  exact ⟨p, vs, rfl, rs.free hp, rs.fresh hp, .inl upd_same, r.mono (rs.frozen hp).2⟩
theorem Cont.newT {Qd : QV} {Q : VK} {ds : List D} {vs : List V} (k : Cont g S H Qd Q) (rs : RS g S H) (r : RDs g S H ds vs) (q : Qd (.tup ds) S) (p : Addr) (hp : H p = none) : Q (.ref p) (upd H p (.tup vs)) :=
  k _ _ S _ (RD.newT rs r hp) (rs.frozen hp).1 (rs.frozen hp).2 q
theorem RS.newO (rs : RS g S H) {ds : List D} {vs : List V} (r : RDs g S H ds vs) {p : Addr} (hp : H p = none) : RS g (S.set p (.lst ds)) (upd H p (.lst vs)) ∧ Step S H (S.set p (.lst ds)) (upd H p (.lst vs)) := by
  have st : Step S H (S.set p (.lst ds)) (upd H p (.lst vs)) := Step.write (.inr hp)
  exact ⟨rs.write (.inr hp) st ⟨vs, upd_same, r.mono st⟩ (fun b e => by rw [hp] at e; cases e), st⟩
theorem Cont.newL {Qd : QV} {Q : VK} {fz : Bool} {ds : List D} {vs : List V} (k : Cont g S H Qd Q) (rs : RS g S H) (r : RDs g S H ds vs) (q : newL fz ds S Qd) (p : Addr) (hp : H p = none) : Q (.ref p) (upd H p (.lst vs)) := by
  unfold G.newL at q
  by_cases hf : fz = true
  · rw [if_pos hf] at q
    exact k _ _ S _ (RD.newF rs r hp) (rs.frozen hp).1 (rs.frozen hp).2 q
  · rw [if_neg hf] at q
    exact k _ (.obj p) _ _ (by unfold RD; rfl) (rs.newO r hp).1 (rs.newO r hp).2 (q p (rs.free hp))
/-! ### reading data -/
theorem RD.seq {d : D} {v : V} {xs : List D} (rs : RS g S H) (r : RD g S H d v) (e : seqOf S d = some xs) : ∃ p vs, v = .ref p ∧ (SqL g.K H p vs ∨ SqT g.K H p vs) ∧ RDs g S H xs vs := by
  cases d with
  | tup ys =>
    simp only [seqOf, Option.some.injEq] at e
    subst e
    unfold RD at r
    obtain ⟨a, vs, e, k, r⟩ := r
    refine ⟨a, vs, e, .inr ?_, r⟩
    rcases k with ⟨_, _, k⟩ | k
    · exact .inl k
    · exact .inr k
  | lst ys =>
    simp only [seqOf, Option.some.injEq] at e
    subst e
    unfold RD at r
    obtain ⟨a, vs, e, _, _, k, r⟩ := r
    exact ⟨a, vs, e, .inl (.inl k), r⟩
  | lsk ys =>
    simp only [seqOf, Option.some.injEq] at e
    subst e
    unfold RD at r
    obtain ⟨a, vs, e, k, r⟩ := r
    refine ⟨a, vs, e, .inl ?_, r⟩
    rcases k with ⟨_, _, k⟩ | k
    · exact .inl k
    · exact .inr k
  | obj a =>
    unfold RD at r
    subst r
    simp only [seqOf] at e
    split at e
    · rename_i ys hs
      cases e
      obtain ⟨vs, h, r⟩ := (rs.1 a _ hs).2
      exact ⟨a, vs, rfl, .inl (SqL.of h), r⟩
    · cases e
  | non => cases e
  | bl b => cases e
  | int i => cases e
  | str s => cases e
  | ty n => cases e
  | gl x => cases e
  | ins _ _ _ => cases e
  | dct _ _ => cases e
  | exn _ _ _ => cases e
theorem RD.seqL {d : D} {v : V} {xs : List D} (rs : RS g S H) (r : RD g S H d v) (e : seqOf S d = some xs) (ne : ∀ ys, d = .tup ys → False) : ∃ p vs, v = .ref p ∧ SqL g.K H p vs ∧ RDs g S H xs vs := by
  cases d with
  | tup ys => exact (ne ys rfl).elim
  | lst ys =>
    simp only [seqOf, Option.some.injEq] at e
    subst e
    unfold RD at r
    obtain ⟨a, vs, e, _, _, k, r⟩ := r
    exact ⟨a, vs, e, .inl k, r⟩
  | lsk ys =>
    simp only [seqOf, Option.some.injEq] at e
    subst e
    unfold RD at r
    obtain ⟨a, vs, e, k, r⟩ := r
    refine ⟨a, vs, e, ?_, r⟩
    rcases k with ⟨_, _, k⟩ | k
    · exact .inl k
    · exact .inr k
  | obj a =>
    unfold RD at r
    subst r
    simp only [seqOf] at e
    split at e
    · rename_i ys hs
      cases e
      obtain ⟨vs, h, r⟩ := (rs.1 a _ hs).2
      exact ⟨a, vs, rfl, SqL.of h, r⟩
    · cases e
  | non => cases e
  | bl b => cases e
  | int i => cases e
  | str s => cases e
  | ty n => cases e
  | gl x => cases e
  | ins _ _ _ => cases e
  | dct _ _ => cases e
  | exn _ _ _ => cases e
theorem RFs.zip : ∀ {ns : List Str} {ds : List D} {vs : List V}, RDs g S H ds vs → RFs g S H (ns.zip ds) (ns.zip vs)
  | [], ds, vs, _ => by rw [List.zip_nil_left, List.zip_nil_left]; rfl
  | n :: ns, [], vs, r => by unfold RDs at r; subst r; rw [List.zip_nil_right, List.zip_nil_right]; rfl
  | n :: ns, d :: ds, vs, r => by
    unfold RDs at r
    obtain ⟨v, r', rfl, h1, h2⟩ := r
    rw [List.zip_cons_cons, List.zip_cons_cons]
    exact ⟨v, _, rfl, h1, RFs.zip h2⟩
theorem RD.inst {d : D} {v : V} {C : Str} {fs : List (Str × D)} (rs : RS g S H) (r : RD g S H d v) (e : insOf S d = some (C, fs)) : ∃ a c dx gs, v = .ref a ∧ g.mg C = some (.ref c) ∧ H a = some (.ins c dx gs) ∧ H dx = some (.own a) ∧ RFs g S H fs gs := by
  cases d with
  | ins C' ns ds =>
    simp only [insOf, Option.some.injEq, Prod.mk.injEq] at e
    obtain ⟨rfl, rfl⟩ := e
    unfold RD at r
    obtain ⟨a, c, dx, vs, e, ⟨_, _, q⟩, ⟨_, _, q'⟩, m, l, r⟩ := r
    exact ⟨a, c, dx, _, e, m, q, q', RFs.zip r⟩
  | obj a =>
    unfold RD at r
    subst r
    simp only [insOf] at e
    split at e
    · rename_i C' fs' hs
      cases e
      obtain ⟨c, dx, gs, m, h, _, o, r⟩ := (rs.1 a _ hs).2
      exact ⟨a, c, dx, gs, rfl, m, h, o, r⟩
    · cases e
  | _ => cases e
theorem RKs.zip : ∀ {ks : List D} {qs : List Key} {ds : List D} {vs : List V}, ks.map toKey = qs.map some → RDs g S H ds vs → RKs g S H (ks.zip ds) (qs.zip vs)
  | [], [], ds, vs, _, _ => by rw [List.zip_nil_left, List.zip_nil_left]; rfl
  | [], _ :: _, _, _, h, _ => by cases h
  | _ :: _, [], _, _, h, _ => by cases h
  | k :: ks, q :: qs, [], vs, _, r => by unfold RDs at r; subst r; rw [List.zip_nil_right, List.zip_nil_right]; rfl
  | k :: ks, q :: qs, d :: ds, vs, h, r => by
    unfold RDs at r
    obtain ⟨v, r', rfl, h1, h2⟩ := r
    rw [List.map_cons, List.map_cons, List.cons.injEq] at h
    rw [List.zip_cons_cons, List.zip_cons_cons]
    exact ⟨q, v, _, rfl, h.1, h1, RKs.zip h.2 h2⟩
theorem RD.dict {d : D} {v : V} {kvs : List (D × D)} (rs : RS g S H) (r : RD g S H d v) (e : dctOf S d = some kvs) : ∃ a gs, v = .ref a ∧ H a = some (.dK gs) ∧ RKs g S H kvs gs := by
  cases d with
  | dct ks ds =>
    simp only [dctOf, Option.some.injEq] at e
    subst e
    unfold RD at r
    obtain ⟨a, qs, vs, e, ⟨_, _, q⟩, m, l, r⟩ := r
    exact ⟨a, _, e, q, RKs.zip m r⟩
  | obj a =>
    unfold RD at r
    subst r
    simp only [dctOf] at e
    split at e
    · rename_i kvs' hs
      cases e
      obtain ⟨gs, h, r⟩ := (rs.1 a _ hs).2
      exact ⟨a, gs, rfl, h, r⟩
    · cases e
  | _ => cases e
theorem RD.tup {v : V} {xs : List D} (r : RD g S H (.tup xs) v) : ∃ p vs, v = .ref p ∧ SqT g.K H p vs ∧ RDs g S H xs vs := by
  unfold RD at r
  obtain ⟨a, vs, e, k, r⟩ := r
  refine ⟨a, vs, e, ?_, r⟩
  rcases k with ⟨_, _, k⟩ | k
  · exact .inl k
  · exact .inr k
theorem RD.lst {v : V} {xs : List D} (r : RD g S H (.lst xs) v) : ∃ p vs, v = .ref p ∧ Rd H p (.lst vs) ∧ RDs g S H xs vs := by
  unfold RD at r
  obtain ⟨a, vs, e, _, _, k, r⟩ := r
  exact ⟨a, vs, e, k, r⟩
theorem mkS_len (s : List Nat) : (mkS s).length = s.length := by show (s.toArray).size = s.length; simp
theorem mkS_list (s : List Nat) : (mkS s).cps.toList = s := by show s.toArray.toList = s; simp
theorem mkS_eta (z : Str) : mkS z.cps.toList = z := by cases z; simp [mkS]
theorem lim_size {n : Nat} (h : n ≤ lim) : n ≤ sizeLine := Nat.le_trans h (by decide)
theorem lim_size' {n : Nat} (h : n < lim) : n < sizeLine := Nat.lt_of_lt_of_le h (by decide)
/-! ### to the library's data -/
mutual
theorem RD.dp : ∀ (d : D) (v : V), plain d = true → RD g S H d v → Dp g.K H v (toPy d)
  | .non, v, _, h => by unfold RD at h; subst h; unfold toPy; exact .non
  | .bl b, v, _, h => by unfold RD at h; subst h; unfold toPy; exact .bl b
  | .int i, v, _, h => by unfold RD at h; subst h; unfold toPy; exact .int i
  | .str s, v, _, h => by unfold RD at h; obtain ⟨rfl, _⟩ := h; unfold toPy; exact .str _
  | .tup xs, v, hp, h => by
    obtain ⟨p, vs, rfl, k, r⟩ := h.tup
    unfold toPy
    unfold plain at hp
    exact .tup k (RDs.dp xs vs hp r)
  | .lst xs, v, hp, h => by
    obtain ⟨p, vs, rfl, k, r⟩ := h.lst
    unfold toPy
    unfold plain at hp
    exact .lst (.inl k) (RDs.dp xs vs hp r)
  | .lsk _, _, hp, _ => by unfold plain at hp; cases hp
  | .obj _, _, hp, _ => by unfold plain at hp; cases hp
  | .ty _, _, hp, _ => by unfold plain at hp; cases hp
  | .gl _, _, hp, _ => by unfold plain at hp; cases hp
  | .ins _ _ _, _, hp, _ => by unfold plain at hp; cases hp
  | .dct _ _, _, hp, _ => by unfold plain at hp; cases hp
  | .exn _ _ _, _, hp, _ => by unfold plain at hp; cases hp
theorem RDs.dp : ∀ (ds : List D) (vs : List V), plains ds = true → RDs g S H ds vs → DpAll g.K H vs (toPys ds)
  | [], vs, _, h => by unfold RDs at h; subst h; unfold toPys; exact .nil
  | d :: ds, vs, hp, h => by
    unfold RDs at h
    obtain ⟨v, r, rfl, h1, h2⟩ := h
    unfold plains at hp
    rw [Bool.and_eq_true] at hp
    unfold toPys
    exact .cons (RD.dp d v hp.1 h1) (RDs.dp ds r hp.2 h2)
end
mutual
theorem RD.lay : ∀ (d : D) (v : V), plain d = true → RD g S H d v → (toPy d).canLay0 = true
  | .non, v, _, h => by unfold toPy PyData.canLay0; rfl
  | .bl b, v, _, h => by unfold toPy PyData.canLay0; rfl
  | .int i, v, _, h => by unfold toPy PyData.canLay0; rfl
  | .str s, v, _, h => by
    unfold RD at h; obtain ⟨rfl, h⟩ := h; unfold toPy PyData.canLay0 PyData.strOk
    rw [← Array.all_toList]
    simpa using h
  | .tup xs, v, hp, h => by
    obtain ⟨p, vs, rfl, k, r⟩ := h.tup
    unfold toPy PyData.canLay0
    unfold plain at hp
    exact RDs.lay xs vs hp r
  | .lst xs, v, hp, h => by
    obtain ⟨p, vs, rfl, k, r⟩ := h.lst
    unfold toPy PyData.canLay0
    unfold plain at hp
    exact RDs.lay xs vs hp r
  | .lsk _, _, hp, _ => by unfold plain at hp; cases hp
  | .obj _, _, hp, _ => by unfold plain at hp; cases hp
  | .ty _, _, hp, _ => by unfold plain at hp; cases hp
  | .gl _, _, hp, _ => by unfold plain at hp; cases hp
  | .ins _ _ _, _, hp, _ => by unfold plain at hp; cases hp
  | .dct _ _, _, hp, _ => by unfold plain at hp; cases hp
  | .exn _ _ _, _, hp, _ => by unfold plain at hp; cases hp
theorem RDs.lay : ∀ (ds : List D) (vs : List V), plains ds = true → RDs g S H ds vs → PyData.canLayAll0 (toPys ds) = true
  | [], vs, _, h => by unfold toPys PyData.canLayAll0; rfl
  | d :: ds, vs, hp, h => by
    unfold RDs at h
    obtain ⟨v, r, rfl, h1, h2⟩ := h
    unfold plains at hp
    rw [Bool.and_eq_true] at hp
    unfold toPys PyData.canLayAll0
    rw [RD.lay d v hp.1 h1, RDs.lay ds r hp.2 h2]; rfl
end
mutual
theorem depth_py : ∀ d : D, (toPy d).depth = depth d
  | .non => by unfold toPy PyData.depth depth; rfl
  | .bl b => by unfold toPy PyData.depth depth; rfl
  | .int i => by unfold toPy PyData.depth depth; rfl
  | .str s => by unfold toPy PyData.depth depth; rfl
  | .tup xs => by unfold toPy PyData.depth depth; rw [depths_py xs]
  | .lst xs => by unfold toPy PyData.depth depth; rw [depths_py xs]
  | .lsk _ => by unfold toPy PyData.depth depth; rfl
  | .obj _ => by unfold toPy PyData.depth depth; rfl
  | .ty _ => by unfold toPy PyData.depth depth; rfl
  | .gl _ => by unfold toPy PyData.depth depth; rfl
  | .ins _ _ _ => by unfold toPy PyData.depth depth; rfl
  | .dct _ _ => by unfold toPy PyData.depth depth; rfl
  | .exn _ _ _ => by unfold toPy PyData.depth depth; rfl
theorem depths_py : ∀ ds : List D, PyData.depthAll (toPys ds) = depths ds
  | [] => by unfold toPys PyData.depthAll depths; rfl
  | d :: ds => by unfold toPys PyData.depthAll depths; rw [depth_py d, depths_py ds]
end
theorem mkS_beq (a b : List Nat) : (mkS a == mkS b) = (a == b) := by
  rw [Bool.eq_iff_iff, beq_iff_eq, beq_iff_eq]
  constructor
  · intro h
    have := congrArg (fun z : Str => z.cps.toList) h
    simpa using this
  · rintro rfl; rfl
mutual
theorem beq_py : ∀ x y : D, plain x = true → plain y = true → PyData.eqv (toPy x) (toPy y) = beq x y
  | .tup xs, .tup ys, hx, hy => by unfold plain at hx hy; unfold toPy PyData.eqv beq; exact beqs_py xs ys hx hy
  | .lst xs, .lst ys, hx, hy => by unfold plain at hx hy; unfold toPy PyData.eqv beq; exact beqs_py xs ys hx hy
  | .str a, .str b, _, _ => by unfold toPy PyData.eqv beq; exact mkS_beq a b
  | .non, .non, _, _ => by unfold toPy PyData.eqv beq; rfl
  | .non, .bl _, _, _ => by unfold toPy PyData.eqv beq; rfl
  | .non, .int _, _, _ => by unfold toPy PyData.eqv beq; rfl
  | .non, .str _, _, _ => by unfold toPy PyData.eqv beq; rfl
  | .non, .tup _, _, _ => by unfold toPy PyData.eqv beq; rfl
  | .non, .lst _, _, _ => by unfold toPy PyData.eqv beq; rfl
  | .bl _, .non, _, _ => by unfold toPy PyData.eqv beq; rfl
  | .bl _, .bl _, _, _ => by unfold toPy PyData.eqv beq; rfl
  | .bl _, .int _, _, _ => by unfold toPy PyData.eqv beq; rfl
  | .bl _, .str _, _, _ => by unfold toPy PyData.eqv beq; rfl
  | .bl _, .tup _, _, _ => by unfold toPy PyData.eqv beq; rfl
  | .bl _, .lst _, _, _ => by unfold toPy PyData.eqv beq; rfl
  | .int _, .non, _, _ => by unfold toPy PyData.eqv beq; rfl
  | .int _, .bl _, _, _ => by unfold toPy PyData.eqv beq; rfl
  | .int _, .int _, _, _ => by unfold toPy PyData.eqv beq; rfl
  | .int _, .str _, _, _ => by unfold toPy PyData.eqv beq; rfl
  | .int _, .tup _, _, _ => by unfold toPy PyData.eqv beq; rfl
  | .int _, .lst _, _, _ => by unfold toPy PyData.eqv beq; rfl
  | .str _, .non, _, _ => by unfold toPy PyData.eqv beq; rfl
  | .str _, .bl _, _, _ => by unfold toPy PyData.eqv beq; rfl
  | .str _, .int _, _, _ => by unfold toPy PyData.eqv beq; rfl
  | .str _, .tup _, _, _ => by unfold toPy PyData.eqv beq; rfl
  | .str _, .lst _, _, _ => by unfold toPy PyData.eqv beq; rfl
  | .tup _, .non, _, _ => by unfold toPy PyData.eqv beq; rfl
  | .tup _, .bl _, _, _ => by unfold toPy PyData.eqv beq; rfl
  | .tup _, .int _, _, _ => by unfold toPy PyData.eqv beq; rfl
  | .tup _, .str _, _, _ => by unfold toPy PyData.eqv beq; rfl
  | .tup _, .lst _, _, _ => by unfold toPy PyData.eqv beq; rfl
  | .lst _, .non, _, _ => by unfold toPy PyData.eqv beq; rfl
  | .lst _, .bl _, _, _ => by unfold toPy PyData.eqv beq; rfl
  | .lst _, .int _, _, _ => by unfold toPy PyData.eqv beq; rfl
  | .lst _, .str _, _, _ => by unfold toPy PyData.eqv beq; rfl
  | .lst _, .tup _, _, _ => by unfold toPy PyData.eqv beq; rfl
  | .lsk _, _, hp, _ => by unfold plain at hp; cases hp
  | .obj _, _, hp, _ => by unfold plain at hp; cases hp
  | .ty _, _, hp, _ => by unfold plain at hp; cases hp
  | .gl _, _, hp, _ => by unfold plain at hp; cases hp
  | .ins _ _ _, _, hp, _ => by unfold plain at hp; cases hp
  | .dct _ _, _, hp, _ => by unfold plain at hp; cases hp
  | .exn _ _ _, _, hp, _ => by unfold plain at hp; cases hp
  | _, .lsk _, _, hp => by unfold plain at hp; cases hp
  | _, .obj _, _, hp => by unfold plain at hp; cases hp
  | _, .ty _, _, hp => by unfold plain at hp; cases hp
  | _, .gl _, _, hp => by unfold plain at hp; cases hp
  | _, .ins _ _ _, _, hp => by unfold plain at hp; cases hp
  | _, .dct _ _, _, hp => by unfold plain at hp; cases hp
theorem beqs_py : ∀ xs ys : List D, plains xs = true → plains ys = true → PyData.eqvAll (toPys xs) (toPys ys) = beqs xs ys
  | [], [], _, _ => by unfold toPys PyData.eqvAll beqs; rfl
  | [], _ :: _, _, _ => by unfold toPys PyData.eqvAll beqs; rfl
  | _ :: _, [], _, _ => by unfold toPys PyData.eqvAll beqs; rfl
  | x :: xs, y :: ys, hx, hy => by
    unfold plains at hx hy
    rw [Bool.and_eq_true] at hx hy
    unfold toPys PyData.eqvAll beqs
    rw [beq_py x y hx.1 hy.1, beqs_py xs ys hx.2 hy.2]
end
theorem RD.shaped {d : D} {v : V} (hp : plain d = true) (hd : depth d ≤ 64) (r : RD g S H d v) : SeqAt.shaped (toPy d) = true := by
  unfold SeqAt.shaped
  rw [r.lay d v hp, depth_py d, decide_eq_true hd]; rfl
end
end G
/-! G3: the operators, subscripts, built-in calls keep what the small syntax says of them. -/
namespace G
open PySem L2
section
open PySem.Spec PyProof.Rows
theorem tuple_mul1 (l : Addr) (items : Array Value) (n : Nat) (dd : Option Addr) (sl : Array (Option Value)) (u : Tok) :
    Meets (Builtin.«tuple.__mul__» ⟨[.ref l, .int 1 u], []⟩) (fun _ R s => s.heap.get? l = some { cls := .type "tuple", dict := dd, data := .seq items n, slots := sl } ∧ R (.ok (.ret (.ref l))) s) :=
  .of_wp fun prog w A R s h => by
    obtain ⟨hp, g, d, tk, os⟩ := s
    obtain ⟨hl, h⟩ := h
    have f1 := AutoSeq1.idx_int
    have c1 : (items.isEmpty || (1 : Int) == 1) = true := by rw [show ((1 : Int) == 1) = true from rfl, Bool.or_true]
    wp_walk using wpAny_loadPart' hl
    repeat (first
      | (refine wpAny_ite_false (by decide) ?_; wp_walk using wpAny_loadPart' hl)
      | (refine wpAny_ite_true (by rw [c1]) ?_; wp_walk using wpAny_loadPart' hl))
    exact ⟨_, rfl, h⟩
end
section
variable {X : Cx} {g : Gx} {S S0 S1 S' : Sto} {H H0 H1 H' : Hp} {ρ : Sl} {σ : L2.St}
theorem rd_int {i : Int} : RD g S H (.int i) (.int i) := by unfold RD; rfl
theorem rd_bl {b : Bool} : RD g S H (.bl b) (.bl b) := by unfold RD; rfl
theorem rd_non : RD g S H .non .non := by unfold RD; rfl
theorem rd_obj {a : Addr} : RD g S H (.obj a) (.ref a) := by unfold RD; rfl
theorem rd_str {s : List Nat} (h : ∀ c ∈ s, c < 0x110000) : RD g S H (.str s) (.str (mkS s)) := by unfold RD; exact ⟨rfl, h⟩
theorem RD.ofInt {v : V} {i : Int} (r : RD g S H (.int i) v) : v = .int i := by unfold RD at r; exact r
theorem RD.ofBl {v : V} {b : Bool} (r : RD g S H (.bl b) v) : v = .bl b := by unfold RD at r; exact r
theorem RD.ofNon {v : V} (r : RD g S H .non v) : v = .non := by unfold RD at r; exact r
theorem RD.ofObj {v : V} {a : Addr} (r : RD g S H (.obj a) v) : v = .ref a := by unfold RD at r; exact r
theorem RD.ofStr {v : V} {s : List Nat} (r : RD g S H (.str s) v) : v = .str (mkS s) ∧ ∀ c ∈ s, c < 0x110000 := by unfold RD at r; exact r
theorem mkS_append (a b : List Nat) : mkS a ++ mkS b = mkS (a ++ b) := by
  show (⟨a.toArray ++ b.toArray⟩ : Str) = ⟨(a ++ b).toArray⟩
  simp
/-- two lists glued -/
def rCatR : R2 := fun x y H Q => ∃ l b xs zs, x = .ref l ∧ y = .ref b ∧ Rd H l (.lst xs) ∧ Rd H b (.lst zs) ∧ xs.length + zs.length ≤ sizeLine ∧ ∀ p, H p = none → Q (.ref p) (upd H p (.lst (xs ++ zs)))
theorem op_catR : OpR X (binaryOp .Add) rCatR := by
  intro pins s σ H x y v u Q I rx ry ⟨l, b, xs, zs, ex, ey, h1, h2, hz, q⟩
  subst ex ey
  cases rx; cases ry
  obtain ⟨z1, i1, n1, r1, e1⟩ := h1.ok I.hok
  obtain ⟨z2, i2, n2, r2, e2⟩ := h2.ok I.hok
  have l1 := r1.length
  have l2 := r2.length
  refine PySem.P.add_list e1 e2 ?_ (by simp only [List.size_toArray]; omega)
  rw [show i1.toArray ++ i2.toArray = (i1 ++ i2).toArray by simp]
  exact ⟨.ref _, _, I.lnew (t' := s.toks) (r1.append r2) (by rw [List.length_append]; exact hz), rfl, q _ I.fresh⟩
theorem flat_rep_len {α : Type} (s : List α) : ∀ n : Nat, (List.replicate n s).flatten.length = n * s.length
  | 0 => by simp
  | n + 1 => by rw [List.replicate_succ, List.flatten_cons, List.length_append, flat_rep_len s n, Nat.succ_mul]; omega
theorem mul_mkS (s : List Nat) (k : Int) (hk : 0 ≤ k) : Txt.mul (mkS s) k = mkS (List.replicate k.toNat s).flatten := by
  unfold Txt.mul
  split
  · have : k = 0 := by omega
    subst this
    rfl
  · split
    · rename_i h1 h2
      rw [Bool.or_eq_true, beq_iff_eq, beq_iff_eq] at h2
      rcases h2 with h2 | h2
      · subst h2
        show mkS s = mkS (List.replicate 1 s).flatten
        simp
      · rw [mkS_len] at h2
        rw [List.eq_nil_of_length_eq_zero h2]
        have : ∀ n, (List.replicate n ([] : List Nat)).flatten = [] := fun n => List.eq_nil_of_length_eq_zero (by rw [flat_rep_len]; simp)
        rw [this]
    · have : ∀ (n : Nat) (acc : Array Nat), (List.replicate n s.toArray).foldl (· ++ ·) acc = acc ++ (List.replicate n s).flatten.toArray := by
        intro n
        induction n with
        | zero => intro acc; simp
        | succ n ih => intro acc; rw [List.replicate_succ, List.foldl_cons, ih, List.replicate_succ, List.flatten_cons]; simp
      show (⟨(List.replicate k.toNat s.toArray).foldl (· ++ ·) #[]⟩ : Str) = ⟨(List.replicate k.toNat s).flatten.toArray⟩
      rw [this]
      simp
theorem rds_rep {S : Sto} {H : Hp} {ds : List D} {vs : List V} (r : RDs g S H ds vs) : ∀ n : Nat, RDs g S H (List.replicate n ds).flatten (List.replicate n vs).flatten
  | 0 => RDs.nil
  | n + 1 => by
    rw [List.replicate_succ, List.replicate_succ, List.flatten_cons, List.flatten_cons]
    exact r.append (rds_rep r n)
def rRep1 (K : PySem.W.Frag) : R2 := fun x y H Q => ∃ l xs, x = .ref l ∧ y = .int 1 ∧ SqT K H l xs ∧ Q (.ref l) H
section
open PySem.Spec PyProof.Rows
theorem op_rep1 : OpR X (binaryOp .Mult) (rRep1 X.K) := by
  intro pins s σ H x y v u Q I rx ry h
  obtain ⟨l, xs, rfl, rfl, hT, q⟩ := h
  cases rx
  obtain ⟨t, rfl⟩ := ry
  obtain ⟨its, r, ⟨⟨cls, dd, data, sl⟩, ho, hc, n, hd⟩, hs⟩ := I.tuple hT
  simp only at hc hd
  subst hc hd
  refine wpAny_binaryOp_repeat_ref (T := "tuple") (U := "int") (by decide) ⟨_, ho, rfl⟩ (fun s' => typeIs_int s' 1 t) noFill_tuple_mul F.fills_int_mul F.slot_int_rmul repeat_tuple F.slot_int_index.lookup
    (call_meets F.slot_int_rmul (typeIs_int s 1 t) F.entry_int_rmul (F.args_int_rmul_2 _ _) (int_rmul_tuple 1 t l its.toArray n dd sl)
      ⟨ho, rfl, ⟨_, ho, rfl⟩, call_meets F.slot_tuple_mul ⟨_, ho, rfl⟩ F.entry_tuple_mul (F.args_tuple_mul_2 _ _) (tuple_mul1 l its.toArray n dd sl t) ⟨ho, ?_⟩⟩)
  exact ⟨.ref l, H, I, rfl, q⟩
end
theorem op_sound (hK : X.K = g.K) (op : Operator) : OpR X (binaryOp op) (R2d g (opS op)) := by
  intro pins s σ H x y v u Q I rx ry ⟨d1, d2, S, Qd, r1, r2, rs, h, k⟩
  unfold opS at h
  split at h
  · rw [r1.ofInt] at rx; rw [r2.ofInt] at ry
    exact op_add pins s σ H _ _ v u Q I rx ry ⟨_, _, rfl, rfl, k.here rs rd_int h⟩
  · obtain ⟨e1, c1⟩ := r1.ofStr
    obtain ⟨e2, c2⟩ := r2.ofStr
    rw [e1] at rx; rw [e2] at ry
    refine op_add_str pins s σ H _ _ v u Q I rx ry ⟨_, _, rfl, rfl, by rw [mkS_len, mkS_len]; exact lim_size h.1, ?_⟩
    rw [mkS_append]
    refine k.here rs (rd_str fun c hc => ?_) h.2
    rcases List.mem_append.mp hc with hc | hc
    · exact c1 c hc
    · exact c2 c hc
  · obtain ⟨p1, v1, e1, k1, q1⟩ := r1.lst
    obtain ⟨p2, v2, e2, k2, q2⟩ := r2.lst
    rw [e1] at rx; rw [e2] at ry
    exact op_catR pins s σ H _ _ v u Q I rx ry ⟨_, _, _, _, rfl, rfl, k1, k2, by rw [← q1.length, ← q2.length]; exact lim_size h.1, fun p hp => k.newL (fz := true) rs (q1.append q2) (by unfold newL; rw [if_pos rfl]; exact h.2) p hp⟩
  · obtain ⟨p1, v1, e1, k1, q1⟩ := r1.tup
    obtain ⟨p2, v2, e2, k2, q2⟩ := r2.tup
    have r1' := r1; have r2' := r2
    rw [e1] at rx r1'; rw [e2] at ry r2'
    refine op_catA pins s σ H _ _ v u Q I rx ry ⟨_, _, _, _, rfl, rfl, hK ▸ k1, hK ▸ k2, by rw [← q1.length, ← q2.length]; exact lim_size h.1, fun e => ?_, fun _ e => ?_, fun _ _ p hp => k.newT rs (q1.append q2) h.2 p hp⟩
    · have : (_ : List D) = [] := List.eq_nil_of_length_eq_zero (q1.length.trans (by rw [e]; rfl))
      rw [this, List.nil_append] at h
      exact k.here rs r2' h.2
    · have : (_ : List D) = [] := List.eq_nil_of_length_eq_zero (q2.length.trans (by rw [e]; rfl))
      rw [this, List.append_nil] at h
      exact k.here rs r1' h.2
  · rw [r1.ofInt] at rx; rw [r2.ofInt] at ry
    exact op_sub pins s σ H _ _ v u Q I rx ry ⟨_, _, rfl, rfl, k.here rs rd_int h⟩
  · rw [r1.ofInt] at rx; rw [r2.ofInt] at ry
    exact op_mul pins s σ H _ _ v u Q I rx ry ⟨_, _, rfl, rfl, h.1, k.here rs rd_int h.2⟩
  · rw [r1.ofInt] at rx; rw [r2.ofInt] at ry
    exact op_fdiv pins s σ H _ _ v u Q I rx ry ⟨_, _, rfl, rfl, ⟨h.1, h.2.1⟩, k.here rs rd_int h.2.2⟩
  · rw [r1.ofInt] at rx; rw [r2.ofInt] at ry
    exact op_mod pins s σ H _ _ v u Q I rx ry ⟨_, _, rfl, rfl, h.1, k.here rs rd_int h.2⟩
  · rw [r1.ofInt] at rx; rw [r2.ofInt] at ry
    exact op_pow pins s σ H _ _ v u Q I rx ry ⟨_, _, rfl, rfl, ⟨h.1, h.2.1, h.2.2.1⟩, k.here rs rd_int h.2.2.2⟩
  · obtain ⟨e1, c1⟩ := r1.ofStr
    rw [e1] at rx; rw [r2.ofInt] at ry
    obtain ⟨t, rfl⟩ := rx
    obtain ⟨t', rfl⟩ := ry
    obtain ⟨k0, k1, hl, q⟩ := h
    rename_i sx kx
    have pr : sx.length * kx.toNat ≤ 1000 * 1000 := Nat.mul_le_mul hl (by omega)
    refine SB.mul ⟨?_, fun h1 h2 => ?_, fun h1 h2 => ?_⟩ fun t2 m => ⟨.str _, H, I.tok _, ⟨_, rfl⟩, ?_⟩
    · rw [Bool.or_eq_false_iff]; exact ⟨decide_eq_false (by omega), decide_eq_false (by omega)⟩
    · rw [mkS_len]
      have : (1000 : Int) ≤ (2 ^ 63 - 1) / kx := Int.le_ediv_of_mul_le (by omega) (by omega)
      omega
    · rw [mkS_len]
      unfold Builtin.Str.tooLong
      exact decide_eq_false (by have := lim_size (show sx.length * kx.toNat ≤ lim from pr); omega)
    · rw [mul_mkS _ _ k0]
      refine k.here rs (rd_str fun c hc => ?_) q
      obtain ⟨l, hl', hc'⟩ := List.mem_flatten.mp hc
      rw [List.eq_of_mem_replicate hl'] at hc'
      exact c1 c hc'
  · obtain ⟨p1, v1, e1, k1, q1⟩ := r1.tup
    rw [e1] at rx; rw [r2.ofInt] at ry
    obtain ⟨h0, h1, h2, h3, q⟩ := h
    rename_i xs kx
    have r1' := r1
    by_cases k2 : kx = 1
    · subst k2
      rw [e1] at r1'
      have e : (List.replicate (1 : Int).toNat xs).flatten = xs := by
        show (List.replicate 1 xs).flatten = xs
        simp
      rw [e] at q
      exact op_rep1 pins s σ H _ _ v u Q I rx ry ⟨_, _, rfl, rfl, hK ▸ k1, k.here rs r1' q⟩
    refine op_repT pins s σ H _ _ v u Q I rx ry ⟨_, _, _, rfl, rfl, hK ▸ k1, fun e => h0 (List.eq_nil_of_length_eq_zero (by rw [q1.length, e]; rfl)), by omega, h2, by rw [← q1.length]; exact h3, fun p hp => k.newT rs (rds_rep q1 _) q p hp⟩
  · rw [r1.ofInt] at rx; rw [r2.ofInt] at ry
    exact op_shl pins s σ H _ _ v u Q I rx ry ⟨_, _, rfl, rfl, ⟨h.1, h.2.1, h.2.2.1⟩, k.here rs rd_int h.2.2.2⟩
  · rw [r1.ofInt] at rx; rw [r2.ofInt] at ry
    exact op_and pins s σ H _ _ v u Q I rx ry ⟨_, _, rfl, rfl, k.here rs rd_int h⟩
  · rw [r1.ofInt] at rx; rw [r2.ofInt] at ry
    exact op_or pins s σ H _ _ v u Q I rx ry ⟨_, _, rfl, rfl, k.here rs rd_int h⟩
  · rw [r1.ofInt] at rx; rw [r2.ofInt] at ry
    exact op_xor pins s σ H _ _ v u Q I rx ry ⟨_, _, rfl, rfl, k.here rs rd_int h⟩
  · rw [r1.ofInt] at rx
    rw [r2.ofInt] at ry
    exact op_shr pins s σ H _ _ v u Q I rx ry ⟨_, _, rfl, rfl, h.1, k.here rs rd_int h.2⟩
  · exact h.elim
/-! ### comparisons -/
theorem flat_V {d : D} {v : V} (h : flat d = true) (r : RD g S H d v) : flatV v = true := by
  cases d with
  | non => rw [r.ofNon]; rfl
  | bl b => rw [r.ofBl]; rfl
  | int i => rw [r.ofInt]; rfl
  | str s => rw [r.ofStr.1]; rfl
  | _ => cases h
theorem eqV_beq {d1 d2 : D} {v1 v2 : V} (h1 : flat d1 = true) (h2 : flat d2 = true) (r1 : RD g S H d1 v1) (r2 : RD g S H d2 v2) : eqV v1 v2 = beq d1 d2 := by
  cases d1 with
  | non => rw [r1.ofNon]; cases d2 with
    | non => rw [r2.ofNon]; unfold beq; rfl
    | bl b => rw [r2.ofBl]; unfold beq; rfl
    | int i => rw [r2.ofInt]; unfold beq; rfl
    | str s => rw [r2.ofStr.1]; unfold beq; rfl
    | _ => cases h2
  | bl b1 => rw [r1.ofBl]; cases d2 with
    | non => rw [r2.ofNon]; unfold beq; rfl
    | bl b => rw [r2.ofBl]; unfold beq; rfl
    | int i => rw [r2.ofInt]; unfold beq; rfl
    | str s => rw [r2.ofStr.1]; unfold beq; rfl
    | _ => cases h2
  | int i1 => rw [r1.ofInt]; cases d2 with
    | non => rw [r2.ofNon]; unfold beq; rfl
    | bl b => rw [r2.ofBl]; unfold beq; rfl
    | int i => rw [r2.ofInt]; unfold beq; rfl
    | str s => rw [r2.ofStr.1]; unfold beq; rfl
    | _ => cases h2
  | str s1 => rw [r1.ofStr.1]; cases d2 with
    | non => rw [r2.ofNon]; unfold beq; rfl
    | bl b => rw [r2.ofBl]; unfold beq; rfl
    | int i => rw [r2.ofInt]; unfold beq; rfl
    | str s => rw [r2.ofStr.1]; unfold beq; exact mkS_beq s1 s
    | _ => cases h2
  | _ => cases h1
theorem any_beq {x : D} {vx : V} (hx : flat x = true) (rx : RD g S H x vx) : ∀ {ds : List D} {vs : List V}, RDs g S H ds vs → ds.all flat = true → vs.all flatV = true ∧ inV vx vs = ds.any fun z => beq z x
  | [], vs, r, _ => by unfold RDs at r; subst r; exact ⟨rfl, rfl⟩
  | d :: ds, vs, r, h => by
    unfold RDs at r
    obtain ⟨v, r', rfl, r1, r2⟩ := r
    rw [List.all_cons, Bool.and_eq_true] at h
    obtain ⟨i1, i2⟩ := any_beq hx rx r2 h.2
    refine ⟨by rw [List.all_cons, flat_V h.1 r1, i1]; rfl, ?_⟩
    unfold inV at i2 ⊢
    rw [List.any_cons, List.any_cons, i2, eqV_beq h.1 hx r1 rx]
theorem is_non {d : D} {v : V} (r : RD g S H d v) : decide (v = .non) = isNon d := by
  cases d with
  | non => rw [r.ofNon]; rfl
  | bl b => rw [r.ofBl]; rfl
  | int i => rw [r.ofInt]; rfl
  | str s => rw [r.ofStr.1]; rfl
  | tup xs => obtain ⟨p, vs, rfl, _⟩ := r.tup; rfl
  | lst xs => obtain ⟨p, vs, rfl, _⟩ := r.lst; rfl
  | lsk xs => unfold RD at r; obtain ⟨p, vs, rfl, _⟩ := r; rfl
  | obj a => rw [r.ofObj]; rfl
  | ty n => unfold RD at r; subst r; rfl
  | gl x => unfold RD at r; obtain ⟨a, rfl, _⟩ := r; rfl
  | ins C ns ds => unfold RD at r; obtain ⟨a, _, _, _, rfl, _⟩ := r; rfl
  | dct ks ds => unfold RD at r; obtain ⟨a, _, _, rfl, _⟩ := r; rfl
  | exn C ns ds => unfold RD at r; obtain ⟨a, _, _, _, rfl, _⟩ := r; rfl
theorem key_rd {d : D} {v : V} {q : Key} (r : RD g S H d v) (h : toKey d = some q) : v = kV q := by
  cases d <;> simp only [toKey, Option.some.injEq, reduceCtorEq] at h
  · subst h; exact r.ofInt
  · subst h; exact r.ofStr.1
theorem getK_val {k : D} {q : Key} (hq : toKey k = some q) : ∀ {kvs : List (D × D)} {gs : List (Key × V)}, RKs g S H kvs gs → (∀ d, getK kvs k = some d → ∃ v, valV gs q = some v ∧ RD g S H d v) ∧ (getK kvs k = none → valV gs q = none)
  | [], gs, r => by
    have e : gs = [] := r
    subst e
    exact ⟨fun d h => (by cases h), fun _ => rfl⟩
  | (x, d) :: kvs, gs, ⟨q', v, gs', e, hk, rd, r⟩ => by
    subst e
    obtain ⟨i1, i2⟩ := getK_val hq r
    unfold getK valV at *
    rw [List.find?_cons, List.find?_cons]
    by_cases hx : q' = q
    · have e1 : keyB k (x, d) = true := by unfold keyB; rw [decide_eq_true_eq]; rw [hk, hq, hx]
      have e2 : decide (((q', v) : Key × V).1 = q) = true := decide_eq_true hx
      rw [e1, e2]
      exact ⟨fun d' h => (by cases h; exact ⟨v, rfl, rd⟩), fun h => (by cases h)⟩
    · have e1 : keyB k (x, d) = false := by unfold keyB; rw [decide_eq_false_iff_not]; rw [hk, hq]; exact fun h => hx (Option.some.inj h)
      have e2 : decide (((q', v) : Key × V).1 = q) = false := decide_eq_false hx
      rw [e1, e2]
      exact ⟨i1, i2⟩
theorem dget_of {d k : D} {v y : V} {kvs : List (D × D)} (rs : RS g S H) (r : RD g S H d v) (e : dctOf S d = some kvs) (rk : RD g S H k y) (hk : (toKey k).isSome = true) :
    ∃ a o, v = .ref a ∧ DGet H a y o ∧ (∀ d', getK kvs k = some d' → ∃ v', o = some v' ∧ RD g S H d' v') ∧ (getK kvs k).isSome = o.isSome := by
  obtain ⟨q, hq⟩ := Option.isSome_iff_exists.mp hk
  obtain ⟨a, gs, rfl, ha, rg⟩ := r.dict rs e
  obtain ⟨h1, h2⟩ := getK_val hq rg
  have ey := key_rd rk hq
  subst ey
  refine ⟨a, valV gs q, rfl, DGet.k ha, h1, ?_⟩
  cases hg : getK kvs k with
  | none => rw [h2 hg]; rfl
  | some d' => obtain ⟨v', hv, _⟩ := h1 d' hg; rw [hv]; rfl
theorem inS_dct {x y : D} {kk : Bool → Prop} (h : inS S x y kk) : (∃ kvs, dctOf S y = some kvs ∧ (toKey x).isSome = true ∧ kk (getK kvs x).isSome) ∨ ∃ xs, seqOf S y = some xs ∧ flat x = true ∧ xs.all flat = true ∧ kk (xs.any fun z => beq z x) := by
  unfold inS at h
  split at h
  · exact .inl ⟨_, rfl, h⟩
  · split at h
    · rename_i e; exact .inl ⟨_, by simp only [dctOf, e], h⟩
    · rename_i e; exact .inr ⟨_, by simp only [seqOf, e], h⟩
    · exact h.elim
  · exact .inr h
theorem inS_imp {x y : D} {kk kk' : Bool → Prop} (h : inS S x y kk) (f : ∀ b, kk b → kk' b) : inS S x y kk' := by
  unfold inS at h ⊢
  split at h
  · exact ⟨h.1, f _ h.2⟩
  · split at h
    · exact ⟨h.1, f _ h.2⟩
    · exact ⟨h.1, h.2.1, f _ h.2.2⟩
    · exact h.elim
  · obtain ⟨xs, a, b, c, d⟩ := h; exact ⟨xs, a, b, c, f _ d⟩
theorem cmp_sound (hK : X.K = g.K) (hu : X.A.units + 64 < cLine) (op : CmpOp) : OpR X (compareOp op) (R2d g (cmpS op)) := by
  intro pins s σ H x y v u Q I rx ry ⟨d1, d2, S, Qd, r1, r2, rs, h, k⟩
  unfold cmpS at h
  split at h
  · rw [r1.ofInt] at rx; rw [r2.ofInt] at ry
    exact op_lt pins s σ H _ _ v u Q I rx ry ⟨_, _, rfl, rfl, k.here rs rd_bl h⟩
  · rw [r1.ofInt] at rx; rw [r2.ofInt] at ry
    exact op_le pins s σ H _ _ v u Q I rx ry ⟨_, _, rfl, rfl, k.here rs rd_bl h⟩
  · rw [r1.ofInt] at rx; rw [r2.ofInt] at ry
    exact op_gt pins s σ H _ _ v u Q I rx ry ⟨_, _, rfl, rfl, k.here rs rd_bl h⟩
  · rw [r1.ofInt] at rx; rw [r2.ofInt] at ry
    exact op_ge pins s σ H _ _ v u Q I rx ry ⟨_, _, rfl, rfl, k.here rs rd_bl h⟩
  · rw [r1.ofStr.1] at rx; rw [r2.ofStr.1] at ry
    refine op_lt_str pins s σ H _ _ v u Q I rx ry ⟨_, _, rfl, rfl, ?_⟩
    rw [mkS_list, mkS_list]
    exact k.here rs rd_bl h
  · rw [r1.ofStr.1] at rx; rw [r2.ofStr.1] at ry
    refine op_le_str pins s σ H _ _ v u Q I rx ry ⟨_, _, rfl, rfl, ?_⟩
    rw [mkS_list, mkS_list]
    exact k.here rs rd_bl h
  · rw [r1.ofStr.1] at rx; rw [r2.ofStr.1] at ry
    refine op_in_sign pins s σ H _ _ v u Q I rx ry ⟨_, _, rfl, rfl, ?_⟩
    rw [mkS_list]
    exact k.here rs rd_bl h
  · rw [r1.ofStr.1] at rx; rw [r2.ofStr.1] at ry
    refine op_notIn_sign pins s σ H _ _ v u Q I rx ry ⟨_, _, rfl, rfl, ?_⟩
    rw [mkS_list]
    exact k.here rs rd_bl h
  · obtain ⟨⟨p1, p2, e1, e2⟩, q⟩ := h
    refine op_eqD hu pins s σ H _ _ v u Q I rx ry ⟨_, _, hK ▸ r1.dp _ _ p1, hK ▸ r2.dp _ _ p2, r1.shaped p1 e1, r2.shaped p2 e2, ?_⟩
    rw [beq_py _ _ p1 p2]
    exact k.here rs rd_bl q
  · obtain ⟨⟨p1, p2, e1, e2⟩, q⟩ := h
    refine op_neD hu pins s σ H _ _ v u Q I rx ry ⟨_, _, hK ▸ r1.dp _ _ p1, hK ▸ r2.dp _ _ p2, r1.shaped p1 e1, r2.shaped p2 e2, ?_⟩
    rw [beq_py _ _ p1 p2]
    exact k.here rs rd_bl q
  · rcases inS_dct h with ⟨kvs, e, hk, q⟩ | ⟨xs, e, f1, f2, q⟩
    · obtain ⟨a, o, ev, dg, _, e2⟩ := dget_of rs r2 e r1 hk
      rw [ev] at ry
      obtain rfl : u = Value.ref a := ry
      exact d_in (by omega) I dg rx fun s3 I3 => ⟨.bl o.isSome, H, I3, rfl, by rw [← e2]; exact k.here rs rd_bl q⟩
    obtain ⟨p, vs, e', sq, r⟩ := r2.seq rs e
    rw [e'] at ry
    obtain ⟨a1, a2⟩ := any_beq f1 r1 r f2
    refine op_in_seq pins s σ H _ _ v u Q I rx ry ⟨p, vs, rfl, hK ▸ sq, flat_V f1 r1, a1, ?_⟩
    rw [if_neg Bool.false_ne_true, a2]
    exact k.here rs rd_bl q
  · rcases inS_dct h with ⟨kvs, e, hk, q⟩ | ⟨xs, e, f1, f2, q⟩
    · obtain ⟨a, o, ev, dg, _, e2⟩ := dget_of rs r2 e r1 hk
      rw [ev] at ry
      obtain rfl : u = Value.ref a := ry
      exact d_notIn (by omega) I dg rx fun s3 I3 => ⟨.bl (!o.isSome), H, I3, rfl, by rw [← e2]; exact k.here rs rd_bl q⟩
    obtain ⟨p, vs, e', sq, r⟩ := r2.seq rs e
    rw [e'] at ry
    obtain ⟨a1, a2⟩ := any_beq f1 r1 r f2
    refine op_notIn_seq pins s σ H _ _ v u Q I rx ry ⟨p, vs, rfl, hK ▸ sq, flat_V f1 r1, a1, ?_⟩
    rw [if_pos rfl, a2]
    exact k.here rs rd_bl q
  · rw [r2.ofNon] at ry
    refine op_isN pins s σ H _ _ v u Q I rx ry ⟨rfl, ?_⟩
    rw [is_non r1]
    exact k.here rs rd_bl h
  · rw [r2.ofNon] at ry
    refine op_notN pins s σ H _ _ v u Q I rx ry ⟨rfl, ?_⟩
    rw [is_non r1]
    exact k.here rs rd_bl h
  · rw [r1.ofBl] at rx; rw [r2.ofBl] at ry
    cases rx
    cases ry
    exact PyProof.Rows.is_bool ⟨.bl _, H, I, rfl, k.here rs rd_bl h⟩
  · rw [r1.ofBl] at rx; rw [r2.ofBl] at ry
    cases rx
    cases ry
    exact PyProof.Rows.isnot_bool ⟨.bl _, H, I, rfl, k.here rs rd_bl h⟩
  · exact h.elim
theorem cmpS_bl {op : CmpOp} {x y : D} {S : Sto} {Q : QV} (h : cmpS op x y S Q) : cmpS op x y S fun z S' => (∃ b, z = .bl b) ∧ Q z S' := by
  unfold cmpS at h ⊢
  split at h
  all_goals first | exact h.elim | exact ⟨⟨_, rfl⟩, h⟩ | exact ⟨h.1, ⟨_, rfl⟩, h.2⟩ | exact inS_imp h fun b q => ⟨⟨_, rfl⟩, q⟩
/-! ### items and slices -/
theorem RDs.atI {ds : List D} {vs : List V} (r : RDs g S H ds vs) {i : Int} {d : D} (h : L2.atI ds i = some d) : ∃ v, L2.atI vs i = some v ∧ RD g S H d v := by
  unfold L2.atI at h ⊢
  rw [r.length] at h
  cases hj : ixN vs.length i with
  | none => rw [hj] at h; cases h
  | some j =>
    rw [hj] at h
    exact r.get j d h
open PySem.Spec PyProof.Rows in
theorem ix_dict (hu : X.A.units + 1 < cLine) : IxR X (fun x y H Q => ∃ a v, x = .ref a ∧ DGet H a y (some v) ∧ Q v H) := by
  intro value slice pins s σ H x y v u Q I rx ry ⟨a, z, ex, dg, q⟩ hs
  subst ex
  obtain rfl : v = Value.ref a := rx
  have hT := dict_typeIs I dg
  unfold subscriptTail
  refine wpAny_bind ?_
  rw [getitemInPython_of_ne hT.not_modules]
  refine wpAny_bind (wpAny_specialOf hT PySem.F.slot_dict_getitem.lookup ?_)
  have fin : wpAny (model X.prog X.w) X.A (subscripted slice false (.ref a) u) (fun r s₃ => wpAny (model X.prog X.w) X.A (letTemporaryGo value (.ref a) r >>= fun _ => pure r) (EP X pins σ Q) X.xe s₃) X.xe s := by
    rw [hs]
    exact wpAny_operating (wpAny_mono (d_getItem hu I dg ry (Q := EP X pins σ Q) fun w' s3 I3 rw' => ⟨z, H, I3, rw', q⟩) (fun r s₃ h₃ => wpAny_bind (wpAny_letTemporaryGo (wpAny_pure h₃))) fun _ _ x => x)
  first
    | exact wpAny_pure (wpAny_bind fin)
    | exact wpAny_bind (wpAny_pure (wpAny_bind fin))
    | exact wpAny_bind fin
/-! ### a dict of the module's top -/
def bkHash (bs : List Bool) : Int := reduceHash (Builtin.Tuple.tupleHashOf (bs.map fun b => hashInt (if b then 1 else 0)))
def enOk (K : PySem.W.Frag) : List DictEntry → List (List Bool × List Nat) → Prop
  | [], [] => True
  | e :: es, (bs, z) :: r => (∃ a o its n, e.key = .ref a ∧ K.lookup a = some o ∧ o.cls = .type "tuple" ∧ o.data = .seq its n ∧ its.toList = bs.map Value.bool) ∧ e.hash = bkHash bs ∧ (∃ t, e.val = .str (mkS z) t) ∧ (∀ c ∈ z, c < 0x110000) ∧ enOk K es r
  | _, _ => False
def GdAt (K : PySem.W.Frag) (a : Addr) (kvs : List (List Bool × List Nat)) : Prop := ∃ o es ep, K.lookup a = some o ∧ o.ExactDict ∧ o.data = .dict es ep ∧ enOk K es.toList kvs ∧ (kvs.map (·.1)).Nodup
theorem sub_sound (hK : X.K = g.K) (hu : X.A.units + 1 < cLine) : IxR X (R2d g subS) := by
  intro value slice pins s σ H x y v u Q I rx ry ⟨d1, d2, S, Qd, r1, r2, rs, h, k⟩ hs
  unfold subS at h
  split at h
  · obtain ⟨z, c, e, q⟩ := h
    obtain ⟨e1, c1⟩ := r1.ofStr
    rw [e1] at rx; rw [r2.ofInt] at ry
    refine ix_str value slice pins s σ H _ _ v u Q I rx ry ⟨_, _, c, rfl, rfl, by rw [mkS_len]; exact lim_size z, by rw [mkS_list]; exact e, ?_⟩ hs
    refine k.here rs (rd_str (s := [c]) fun c' hc' => ?_) q
    rw [List.mem_singleton] at hc'
    subst hc'
    unfold L2.atI at e
    cases hj : ixN (List.length _) _ with
    | none => rw [hj] at e; cases e
    | some j => rw [hj] at e; exact c1 _ (List.mem_of_getElem? e)
  · obtain ⟨d, hk, hg, q⟩ := h
    obtain ⟨a, o, ev, dg, e1, _⟩ := dget_of rs r1 rfl r2 hk
    obtain ⟨v', rfl, rv'⟩ := e1 d hg
    exact ix_dict hu value slice pins s σ H _ _ v u Q I rx ry ⟨a, v', ev, dg, k.here rs rv' q⟩ hs
  · rename_i a i
    split at h
    · rename_i xs e
      obtain ⟨kk, d, rfl, ha, q⟩ := h
      obtain ⟨p, vs, e', sq, r⟩ := r1.seqL rs (xs := xs) (by simp only [seqOf, e]) (fun ys z => by cases z)
      obtain ⟨w', h1, h2⟩ := r.atI ha
      rw [e'] at rx; rw [r2.ofInt] at ry
      exact ix_list value slice pins s σ H _ _ v u Q I rx ry ⟨p, vs, _, w', rfl, rfl, hK ▸ sq, h1, k.here rs h2 q⟩ hs
    · rename_i kvs e
      obtain ⟨d, hk, hg, q⟩ := h
      obtain ⟨a', o, ev, dg, e1, _⟩ := dget_of (kvs := kvs) rs r1 (by simp only [dctOf, e]) r2 hk
      obtain ⟨v', rfl, rv'⟩ := e1 d hg
      exact ix_dict hu value slice pins s σ H _ _ v u Q I rx ry ⟨a', v', ev, dg, k.here rs rv' q⟩ hs
    · exact h.elim
  · obtain ⟨xs, d, e, ha, q⟩ := h
    obtain ⟨p, vs, e', sq, r⟩ := r1.seq rs e
    obtain ⟨w', h1, h2⟩ := r.atI ha
    rw [e'] at rx; rw [r2.ofInt] at ry
    rcases sq with sq | sq
    · exact ix_list value slice pins s σ H _ _ v u Q I rx ry ⟨p, vs, _, w', rfl, rfl, hK ▸ sq, h1, k.here rs h2 q⟩ hs
    · exact ix_tup value slice pins s σ H _ _ v u Q I rx ry ⟨p, vs, _, w', rfl, rfl, hK ▸ sq, h1, k.here rs h2 q⟩ hs
  · exact h.elim
theorem cut_mem {α : Type} {xs : List α} {lo hi : Option Int} {x : α} (h : x ∈ cut xs lo hi) : x ∈ xs := List.mem_of_mem_drop (List.mem_of_mem_take h)
theorem RDs.cut {ds : List D} {vs : List V} (r : RDs g S H ds vs) (lo hi : Option Int) : RDs g S H (G.cut ds lo hi) (cutV vs lo hi) := by
  unfold G.cut cutV
  rw [r.length]
  exact (r.drop _).take _
theorem cut_whole {α : Type} {xs : List α} {lo hi : Option Int} (h : HT.sIx xs.length 0 lo = 0 ∧ HT.sIx xs.length xs.length hi = xs.length) : cut xs lo hi = xs := by
  unfold cut
  rw [h.1, h.2]
  simp
def rSlD (g : Gx) : V → Option Int → Option Int → Hp → VK → Prop := fun x lo hi H Q => ∃ d S Qd, RD g S H d x ∧ RS g S H ∧ slS d lo hi S Qd ∧ Cont g S H Qd Q
theorem sl_sound (hK : X.K = g.K) : SlR X (rSlD g) := by
  intro pins s σ H x v vl vu lo hi sl Q I rx hsl pl pu ⟨d, S, Qd, r1, rs, h, k⟩
  unfold slS at h
  split at h
  · obtain ⟨e1, c1⟩ := r1.ofStr
    rw [e1] at rx
    refine sl_str pins s σ H _ v vl vu lo hi sl Q I rx hsl pl pu ⟨_, rfl, by rw [mkS_len]; exact lim_size h.1, ?_⟩
    have e : cutS (mkS ‹List Nat›) lo hi = mkS (cut ‹List Nat› lo hi) := by
      unfold cutS cut
      rw [mkS_list, mkS_len]
    rw [e]
    exact k.here rs (rd_str fun c hc => c1 c (cut_mem hc)) h.2
  · obtain ⟨p, vs, e', sq, r⟩ := r1.tup
    have r1' := r1
    rw [e'] at rx r1'
    refine sl_tupA pins s σ H _ v vl vu lo hi sl Q I rx hsl pl pu ⟨p, vs, rfl, hK ▸ sq, fun hw => ?_, fun _ q hq => k.newT rs (r.cut lo hi) h q hq⟩
    rw [← r.length] at hw
    rw [cut_whole hw] at h
    exact k.here rs r1' h
  · obtain ⟨xs, e, q⟩ := h
    obtain ⟨p, vs, e', sq, r⟩ := r1.seqL rs e (by assumption)
    rw [e'] at rx
    exact sl_list pins s σ H _ v vl vu lo hi sl Q I rx hsl pl pu ⟨p, vs, rfl, hK ▸ sq, fun p hp => k.newL (fz := true) rs (r.cut lo hi) (by unfold newL; rw [if_pos rfl]; exact q) p hp⟩
end
end G
/-! GO: sorted of data, of lists and of tuples. -/
namespace G
open PySem PySem.Spec PyProof.Rows L2
section
variable {prog : Program} {w : World} {A : Around} {E : Value → Shared → Prop} {s : Shared}
/-- a tuple's items, collected -/
theorem collectT {l : Addr} {o : Obj} {vs : List Value} {n : Nat} {Q : List Value → Shared → Prop} (ho : s.heap.get? l = some o) (hc : o.cls = .type "tuple") (hd : o.data = .seq vs.toArray n) (hz : vs.length ≤ sizeLine)
    (h : Q vs { s with heap := (s.heap.push (seqObj "list" #[] 0)).update s.heap.objs.size (Obj.mapSeq (· ++ vs.toArray)) }) : wpAny (model prog w) A (collect (.ref l)) Q E s := by
  unfold collect
  refine wpAny_bind (wpAny_runValue (codeAny_builtin entry_proto_collect' ?_))
  refine wpAny_bind (m := newList []) (wpAny_newList (wpAny_pure ⟨Code.quiet_builtin _ (by decide +kernel), codeAny_builtin entry_list_iadd' ?_⟩))
  show wpAny _ _ (Builtin.List.listExtendWith (.ref s.heap.objs.size) (.ref l) (.ref s.heap.objs.size)) _ _ { s with heap := s.heap.push (seqObj "list" #[] 0) }
  have ho2 := Heap.get?_push_of_some (seqObj "list" #[] 0) ho
  have tt : (Value.type "tuple" == Value.type "tuple") = true := rfl
  have new : (s.heap.push (seqObj "list" #[] 0)).get? s.heap.objs.size = some (seqObj "list" #[] 0) := Heap.get?_push_size _ rfl
  unfold Builtin.List.listExtendWith
  refine wpAny_bind (wpAny_typeOf (T := "tuple") ⟨o, ho2, hc⟩ ?_)
  rw [tt, Bool.or_true, if_pos rfl]
  refine wpAny_bind (listItems_at ho2 hd (wpAny_bind (listItems_at (xs := #[]) (n := 0) new rfl ?_)))
  rw [if_neg (by simp)]
  refine wpAny_bind (listUpdate_at (xs := #[]) (n := 0) new rfl (wpAny_pure ?_) (Nat.zero_le _) ?_)
  · refine wpAny_bind (wpAny_load (get?_update_seq new _) ?_)
    refine wpAny_pure ?_
    have e : ((#[] : Array Value) ++ vs.toArray).toList = vs := by simp
    rw [e]
    exact h
  · simp only [Array.size_append, List.size_toArray, List.length_nil]
    omega
/-- sorted of what can be collected -/
theorem sortedC {β : Type} {enc : β → PyData} {R : Value → β → Prop} {l : Addr} {vs : List Value} {bs : List β} {Q : Value → Shared → Prop}
    (col : ∀ (Q : List Value → Shared → Prop), Q vs { s with heap := (s.heap.push (seqObj "list" #[] 0)).update s.heap.objs.size (Obj.mapSeq (· ++ vs.toArray)) } → wpAny (model prog w) A.in1 (collect (.ref l)) Q (fun e s' => False) s)
    (e : PySem.W.EachIs R vs bs) (er : PySem.W.EachIs (fun v b => ∃ as, Reads s.heap v (enc b) as) vs bs) (hal : PySem.W.AllAlike (bs.map enc)) (hk : PySem.W.Sortable (bs.map enc)) (hL : vs.length ≤ sizeLine) (hu : ∀ b, b ∈ bs → A.units + 2 + (enc b).depth < cLine)
    (h : ∀ out, out.length = vs.length → PySem.W.EachIs R out (bs.mergeSort (PySem.W.dataLe false enc)) → Q (.ref (s.heap.objs.size + 1)) { s with heap := sortedAll s.heap vs out.toArray }) :
    wpAny (model prog w) A (call (.builtin "sorted") [.ref l]) Q E s := by
  have er2 : PySem.W.EachIs (fun v b => ∃ as, Reads (PySem.W.sortingHeap (PySem.W.copyHeap s.heap vs) (s.heap.objs.size + 1) vs) v (enc b) as) vs bs := er.mono fun _ _ ⟨as, r⟩ => ⟨as, PyProof.Rows.Reads.keeps (fun _ _ => PySem.W.sorting_copy_old) r⟩
  have srt : PySem.W.SortsAt prog w A.in1.in1 { s with heap := PySem.W.sortingHeap (PySem.W.copyHeap s.heap vs) (s.heap.objs.size + 1) vs } _ vs :=
    PySem.W.SortsAt.data (s := { s with heap := PySem.W.sortingHeap (PySem.W.copyHeap s.heap vs) (s.heap.objs.size + 1) vs }) (PySem.W.each_map (R := fun v d => ∃ as, Reads _ v d as) enc er2) hal hk (PySem.W.bound_map hu)
  have hq := h _ (by rw [PySem.W.sortVals_length false rfl]) (PySem.W.sortVals_data false e er2 hal)
  refine Calls.call_function_entry kind_sorted plain_sorted entry_sorted (args_sorted1 _) ?_
  unfold Builtin.«sorted»
  refine wpAny_bind (m := checkCount "sorted" 1 1 _) (wpAny_pure (wpAny_bind (wpAny_mono (col (fun us s' => us = vs ∧ s' = { s with heap := (s.heap.push (seqObj "list" #[] 0)).update s.heap.objs.size (Obj.mapSeq (· ++ vs.toArray)) }) ⟨rfl, rfl⟩) ?_ fun _ _ z => z.elim)))
  rintro us s' ⟨rfl, rfl⟩
  refine wpAny_bind (wpAny_newList ?_ hL)
  have hsz : ((s.heap.push (seqObj "list" #[] 0)).update s.heap.objs.size (Obj.mapSeq (· ++ us.toArray))).objs.size = s.heap.objs.size + 1 := by rw [Heap.size_update, size_push']
  show wpAny _ _ _ _ _ { s with heap := PySem.W.copyHeap s.heap us }
  rw [hsz]
  refine wpAny_bind (wpAny_holding (wpAny_call_entry slot_list_sort ⟨_, PySem.W.copyHeap_at s.heap us, rfl⟩ entry_list_sort ?_ (args_list_sort _)))
  exact PySem.W.list_sort_vals (s := { s with heap := PySem.W.copyHeap s.heap us }) (PySem.W.copyHeap_at s.heap us) srt hL ⟨_, rfl, wpAny_pure ⟨_, rfl, hq⟩⟩
end
section
variable {X : Cx} {g : Gx} {S : Sto} {H : Hp} {pins : List (Addr × Obj)} {σ : L2.St} {s : Shared}
theorem each_rd (hK : X.K = g.K) (I : L2.Inv X pins σ H s) : ∀ {xs : List D} {ws : List V} {its : List Value}, RDs g S H xs ws → Vals ws its → plains xs = true →
    PySem.W.EachIs (fun v d => ∃ x, RelV x v ∧ RD g S H d x) its xs ∧ PySem.W.EachIs (fun v d => ∃ as, Reads s.heap v (toPy d) as) its xs
  | [], ws, its, r, rv, _ => by
    unfold RDs at r
    subst r
    cases rv
    exact ⟨.nil, .nil⟩
  | d :: ds, ws, its, r, rv, hp => by
    unfold RDs at r
    obtain ⟨v, r', rfl, h1, h2⟩ := r
    unfold plains at hp
    rw [Bool.and_eq_true] at hp
    cases rv with
    | cons hv hr =>
      obtain ⟨i1, i2⟩ := each_rd hK I h2 hr hp.2
      have hdp := h1.dp d _ hp.1
      rw [← hK] at hdp
      exact ⟨.cons ⟨_, hv, h1⟩ i1, .cons (Dp.reads I (toPy d) _ _ hdp hv) i2⟩
theorem rds_each : ∀ {ds : List D} {out : List Value}, PySem.W.EachIs (fun v d => ∃ x, RelV x v ∧ RD g S H d x) out ds → ∃ ws, Vals ws out ∧ RDs g S H ds ws
  | [], out, h => by cases h; exact ⟨[], .nil, RDs.nil⟩
  | d :: ds, out, h => by
    cases h with
    | cons h1 h2 =>
      obtain ⟨x, rx, rd⟩ := h1
      obtain ⟨ws, i1, i2⟩ := rds_each h2
      exact ⟨x :: ws, .cons rx i1, RDs.cons rd i2⟩
theorem depths_mem : ∀ {xs : List D} {d : D}, d ∈ xs → depth d ≤ depths xs
  | x :: r, d, h => by
    unfold depths
    rcases List.mem_cons.mp h with rfl | h
    · exact Nat.le_max_left ..
    · exact Nat.le_trans (depths_mem h) (Nat.le_max_right ..)
theorem run_sorted {p : Addr} {ws : List V} {xs : List D} {Q : VK} (hK : X.K = g.K) (hu : X.A.units + 66 < cLine) (I : L2.Inv X pins σ H s) (sq : SqL X.K H p ws ∨ SqT X.K H p ws) (r : RDs g S H xs ws) (ok : srtOk xs)
    (q : ∀ l us, H l = none → RDs g S H (srtD xs) us → Q (.ref l) (upd H l (.lst us))) : wpAny (model X.prog X.w) X.A (call (.builtin "sorted") [.ref p]) (EP X pins σ Q) X.xe s := by
  obtain ⟨h1, h2, h3, h4, h5⟩ := ok
  have go : ∀ its : List Value, Vals ws its → (∀ (Q : List Value → Shared → Prop), Q its { s with heap := (s.heap.push (seqObj "list" #[] 0)).update s.heap.objs.size (Obj.mapSeq (· ++ its.toArray)) } → wpAny (model X.prog X.w) X.A.in1 (collect (.ref p)) Q (fun e s' => False) s) → its.length ≤ sizeLine →
      wpAny (model X.prog X.w) X.A (call (.builtin "sorted") [.ref p]) (EP X pins σ Q) X.xe s := fun its rv col hz => by
    obtain ⟨e1, e2⟩ := each_rd hK I r rv h1
    refine sortedC col e1 e2 h4 h5 hz (fun d hd => ?_) fun out hl eo => ?_
    · have := depths_mem hd
      rw [depth_py d]; omega
    · obtain ⟨us, ru, rd⟩ := rds_each eo
      obtain ⟨n, hn⟩ := sortedAll_at s.heap its out.toArray
      refine ⟨.ref (s.heap.objs.size + 1), upd H (s.heap.objs.size + 1) (.lst us), I.laid (t' := s.toks) (fun b o e => sortedAll_old e) (Nat.le_succ _) ⟨?_, out, n, ru, hn⟩, rfl, q _ us (I.hok.fresh (Nat.le_succ _)) rd⟩
      rw [ru.length, hl]; exact hz
  rcases sq with sq | sq
  · obtain ⟨its, rv, hl, hz⟩ := I.list sq
    exact go its rv (fun Q q => collect_list hl.isList q (by rw [← rv.length]; exact hz)) (by rw [← rv.length]; exact hz)
  · obtain ⟨its, rv, ⟨o, ho, hc, n, hd⟩, hz⟩ := I.tuple sq
    exact go its rv (fun Q q => collectT ho hc hd (by rw [← rv.length]; exact hz) q) (by rw [← rv.length]; exact hz)
end
end G
/-! G4: built-in calls and methods. -/
namespace G
open PySem L2
section
variable {X : Cx} {g : Gx} {S S0 S1 S' : Sto} {H H0 H1 H' : Hp} {ρ : Sl} {σ : L2.St}
theorem RDs.one {d : D} {vs : List V} (r : RDs g S H [d] vs) : ∃ v, vs = [v] ∧ RD g S H d v := by
  unfold RDs at r
  obtain ⟨v, r', e, r1, r2⟩ := r
  unfold RDs at r2
  exact ⟨v, by rw [e, r2], r1⟩
theorem RDs.two {d d' : D} {vs : List V} (r : RDs g S H [d, d'] vs) : ∃ v v', vs = [v, v'] ∧ RD g S H d v ∧ RD g S H d' v' := by
  unfold RDs at r
  obtain ⟨v, r', e, r1, r2⟩ := r
  obtain ⟨v', e', r3⟩ := r2.one
  exact ⟨v, v', by rw [e, e'], r1, r3⟩
theorem RDs.bls : ∀ {bs : List Bool} {vs : List V}, RDs g S H (bs.map D.bl) vs → vs = bs.map V.bl
  | [], vs, r => by unfold List.map RDs at r; exact r
  | b :: bs, vs, r => by
    rw [List.map_cons] at r
    unfold RDs at r
    obtain ⟨v, r', e, r1, r2⟩ := r
    rw [e, r1.ofBl, RDs.bls r2]; rfl
theorem RDs.strs : ∀ {ss : List (List Nat)} {vs : List V}, RDs g S H (ss.map D.str) vs → vs = (ss.map mkS).map V.str ∧ ∀ s ∈ ss, ∀ c ∈ s, c < 0x110000
  | [], vs, r => by unfold List.map RDs at r; exact ⟨r, by simp⟩
  | s :: ss, vs, r => by
    rw [List.map_cons] at r
    unfold RDs at r
    obtain ⟨v, r', e, r1, r2⟩ := r
    obtain ⟨e2, c2⟩ := RDs.strs r2
    refine ⟨by rw [e, r1.ofStr.1, e2]; rfl, fun s' hs c hc => ?_⟩
    rcases List.mem_cons.mp hs with rfl | hs
    · exact r1.ofStr.2 c hc
    · exact c2 s' hs c hc
theorem rds_signs {s : List Nat} (h : ∀ c ∈ s, c < 0x110000) : RDs g S H (s.map fun c => .str [c]) (s.map fun c => V.str (mkS [c])) := by
  induction s with
  | nil => exact RDs.nil
  | cons c s ih => exact RDs.cons (rd_str fun c' hc' => by rw [List.mem_singleton] at hc'; subst hc'; exact h _ (by simp)) (ih fun c hc => h c (by simp [hc]))
theorem vals_signs {s : List Nat} {acc : Array Value} (h : ItemsOf (SignAt (mkS s)) acc (mkS s).cps.size) : Vals (s.map fun c => V.str (mkS [c])) acc.toList := by
  have hl : acc.size = s.length := by rw [h.1]; exact mkS_len s
  have key : ∀ (l : List Nat) (us : List Value), us.length = l.length → (∀ (j c : Nat), l[j]? = some c → ∃ u, us[j]? = some u ∧ RelV (.str (mkS [c])) u) → Vals (l.map fun c => V.str (mkS [c])) us := by
    intro l
    induction l with
    | nil => intro us hu _; cases us with
      | nil => exact .nil
      | cons _ _ => simp at hu
    | cons c l ih =>
      intro us hu hj
      cases us with
      | nil => simp at hu
      | cons u us =>
        obtain ⟨u', e, r⟩ := hj 0 c rfl
        simp at e
        subst e
        refine .cons r (ih us (by simpa using hu) fun j c' hc' => ?_)
        obtain ⟨u2, e2, r2⟩ := hj (j + 1) c' (by simpa using hc')
        exact ⟨u2, by simpa using e2, r2⟩
  refine key s acc.toList (by simpa using hl) fun j c hc => ?_
  have hj : j < acc.size := by rw [hl]; exact (List.getElem?_eq_some_iff.mp hc).1
  obtain ⟨c', u, hc', e⟩ := h.2 j acc[j] (by simp [hj])
  refine ⟨acc[j], by simp [hj], ?_⟩
  have : c' = c := by
    have : s[j]? = some c' := by simpa using hc'
    rw [hc] at this
    exact (Option.some.inj this).symm
  subst this
  exact ⟨u, e⟩
theorem ofString_digits (n : Int) : Str.ofString (toString n) = mkS (digits n) := by
  rw [Str.ofString_eq_toList]
  rfl
theorem digits_ok (n : Int) : ∀ c ∈ digits n, c < 0x110000 := by
  intro c hc
  unfold digits at hc
  obtain ⟨k, _, rfl⟩ := List.mem_map.mp hc
  have := k.valid
  rcases this with h | ⟨_, h⟩
  · show k.val.toNat < _
    omega
  · show k.val.toNat < _
    omega
/-! ### how things are shown -/
def okC (l : List Nat) : Prop := ∀ c ∈ l, c < 0x110000
theorem okC.app {a b : List Nat} (ha : okC a) (hb : okC b) : okC (a ++ b) := fun c hc => (List.mem_append.mp hc).elim (ha c) (hb c)
theorem okS_app {a b : Str} (ha : okC a.cps.toList) (hb : okC b.cps.toList) : okC (a ++ b).cps.toList := by
  show okC (a.cps ++ b.cps).toList
  rw [Array.toList_append]
  exact ha.app hb
theorem hex_ok (c w : Nat) : okC (List.replicate (w - ((Nat.toDigits 16 c).map Char.toNat).length) 48 ++ (Nat.toDigits 16 c).map Char.toNat) := by
  refine okC.app (fun x hx => ?_) fun x hx => ?_
  · rw [(List.mem_replicate.mp hx).2]; decide
  · obtain ⟨k, _, rfl⟩ := List.mem_map.mp hx
    rcases k.valid with h | ⟨_, h⟩
    · show k.val.toNat < _; omega
    · show k.val.toNat < _; omega
theorem okC_two {a b : Nat} (ha : a < 0x110000) (hb : b < 0x110000) : okC [a, b] := fun x hx => by
  rcases List.mem_cons.mp hx with rfl | hx
  · exact ha
  · rw [List.mem_singleton.mp hx]; exact hb
theorem reprChar_ok {q c : Nat} (h : c < 0x110000) : okC (Builtin.Str.reprChar q c) := by
  unfold Builtin.Str.reprChar
  dsimp only
  split
  · exact okC_two (by decide) h
  split
  · exact okC_two (by decide) (by decide)
  split
  · exact okC_two (by decide) (by decide)
  split
  · exact okC_two (by decide) (by decide)
  split
  · exact fun x hx => by rw [List.mem_singleton.mp hx]; exact h
  split
  · exact (okC_two (by decide) (by decide)).app (hex_ok c 2)
  split
  · exact (okC_two (by decide) (by decide)).app (hex_ok c 4)
  · exact (okC_two (by decide) (by decide)).app (hex_ok c 8)
theorem reprText_ok {x : Str} (h : okC x.cps.toList) : okC (reprText x).cps.toList := by
  have hq : reprQuote x < 0x110000 := by unfold reprQuote; split <;> decide
  have key : ∀ (l : List Nat) (acc : Array Nat), okC l → okC acc.toList → okC (l.foldl (fun out c => out ++ (Builtin.Str.reprChar (reprQuote x) c).toArray) acc).toList := by
    intro l
    induction l with
    | nil => intro acc _ ha; exact ha
    | cons c l ih =>
      intro acc hl ha
      rw [List.foldl_cons]
      refine ih _ (fun y hy => hl y (by simp [hy])) ?_
      rw [Array.toList_append]
      exact ha.app (by simpa using reprChar_ok (q := reprQuote x) (hl c (by simp)))
  unfold reprText
  show okC (Array.push (Array.foldl (fun out c => out ++ (Builtin.Str.reprChar (reprQuote x) c).toArray) #[reprQuote x] x.cps) (reprQuote x)).toList
  rw [Array.toList_push, ← Array.foldl_toList]
  refine (key _ _ h fun y hy => ?_).app fun y hy => ?_
  · have : y = reprQuote x := by simpa using hy
    rw [this]; exact hq
  · rw [List.mem_singleton.mp hy]; exact hq
theorem textFrom_ok : ∀ (ts : List Str) (k : Nat) (acc : Str), (∀ t ∈ ts, okC t.cps.toList) → okC acc.cps.toList → okC (textFrom k acc ts).cps.toList
  | [], k, acc, _, ha => ha
  | t :: ts, k, acc, h, ha => by
    unfold textFrom
    refine textFrom_ok ts _ _ (fun u hu => h u (by simp [hu])) (okS_app (okS_app ha ?_) (h t (by simp)))
    split
    · unfold okC; decide +kernel
    · unfold okC; decide +kernel
theorem join_ok : ∀ (ts : List Str), (∀ t ∈ ts, okC t.cps.toList) → okC (Str.join ", " ts).cps.toList
  | [], _ => by unfold okC; decide +kernel
  | [t], h => h t (by simp)
  | t :: u :: ts, h => by
    show okC ((t ++ ", ") ++ Str.join ", " (u :: ts)).cps.toList
    exact okS_app (okS_app (h t (by simp)) (by unfold okC; decide +kernel)) (join_ok (u :: ts) fun x hx => h x (by simp [hx]))
mutual
theorem shown_ok : ∀ d : D, (toPy d).canLay0 = true → okC (toPy d).shown.cps.toList
  | .non, _ => by unfold toPy PyData.shown okC; decide +kernel
  | .bl b, _ => by unfold toPy PyData.shown okC; cases b <;> decide +kernel
  | .int i, _ => by
    unfold toPy PyData.shown
    show okC (Str.ofString (toString i)).cps.toList
    rw [ofString_digits, mkS_list]
    exact digits_ok i
  | .str s, h => by
    unfold toPy PyData.shown
    refine reprText_ok ?_
    unfold toPy PyData.canLay0 PyData.strOk at h
    rw [← Array.all_toList] at h
    intro c hc
    have := List.all_eq_true.mp h c hc
    simpa using this
  | .tup xs, h => by
    unfold toPy PyData.canLay0 at h
    unfold toPy PyData.shown tupleText
    refine okS_app (okS_app (by unfold okC; decide +kernel) (join_ok _ (shownAll_ok xs h))) ?_
    split
    · unfold okC; decide +kernel
    · unfold okC; decide +kernel
  | .lst xs, h => by
    unfold toPy PyData.canLay0 at h
    unfold toPy PyData.shown listText
    exact okS_app (textFrom_ok _ _ _ (shownAll_ok xs h) (by unfold okC; decide +kernel)) (by unfold okC; decide +kernel)
  | .lsk _, _ => by unfold toPy PyData.shown okC; decide +kernel
  | .obj _, _ => by unfold toPy PyData.shown okC; decide +kernel
  | .ty _, _ => by unfold toPy PyData.shown okC; decide +kernel
  | .gl _, _ => by unfold toPy PyData.shown okC; decide +kernel
  | .ins _ _ _, _ => by unfold toPy PyData.shown okC; decide +kernel
  | .dct _ _, _ => by unfold toPy PyData.shown okC; decide +kernel
  | .exn _ _ _, _ => by unfold toPy PyData.shown okC; decide +kernel
theorem shownAll_ok : ∀ ds : List D, PyData.canLayAll0 (toPys ds) = true → ∀ t ∈ PyData.shownAll (toPys ds), okC t.cps.toList
  | [], _, t, ht => by unfold toPys PyData.shownAll at ht; cases ht
  | d :: ds, h, t, ht => by
    unfold toPys PyData.canLayAll0 at h
    rw [Bool.and_eq_true] at h
    unfold toPys PyData.shownAll at ht
    rcases List.mem_cons.mp ht with rfl | ht
    · exact shown_ok d h.1
    · exact shownAll_ok ds h.2 t ht
end
mutual
theorem no_dict : ∀ d : D, (toPy d).hasDict = false
  | .non => by unfold toPy PyData.hasDict; rfl
  | .bl b => by unfold toPy PyData.hasDict; rfl
  | .int i => by unfold toPy PyData.hasDict; rfl
  | .str s => by unfold toPy PyData.hasDict; rfl
  | .tup xs => by unfold toPy PyData.hasDict; exact no_dicts xs
  | .lst xs => by unfold toPy PyData.hasDict; exact no_dicts xs
  | .lsk _ => by unfold toPy PyData.hasDict; rfl
  | .obj _ => by unfold toPy PyData.hasDict; rfl
  | .ty _ => by unfold toPy PyData.hasDict; rfl
  | .gl _ => by unfold toPy PyData.hasDict; rfl
  | .ins _ _ _ => by unfold toPy PyData.hasDict; rfl
  | .dct _ _ => by unfold toPy PyData.hasDict; rfl
  | .exn _ _ _ => by unfold toPy PyData.hasDict; rfl
theorem no_dicts : ∀ ds : List D, PyData.hasDictAll (toPys ds) = false
  | [] => by unfold toPys PyData.hasDictAll; rfl
  | d :: ds => by unfold toPys PyData.hasDictAll; rw [no_dict d, no_dicts ds]; rfl
end
theorem seqL_rd {d : D} {v : V} {xs : List D} (rs : RS g S H) (r : RD g S H d v) (e : seqL S d = some xs) : ∃ p vs, v = .ref p ∧ SqL g.K H p vs ∧ RDs g S H xs vs := by
  refine r.seqL rs ?_ ?_
  · cases d <;> simp only [seqL, reduceCtorEq] at e <;> first | exact e | (simp only [seqOf]; exact e)
  · rintro ys rfl
    cases e
theorem rds_intsV {S : Sto} {H : Hp} : ∀ {ns : List Int} {ws : List V}, RDs g S H (ns.map .int) ws → ws = ns.map V.int
  | [], ws, h => by
    unfold RDs at h
    exact h
  | n :: ns, ws, h => by
    unfold RDs at h
    obtain ⟨v, r, rfl, h1, h2⟩ := h
    rw [h1.ofInt, rds_intsV h2]; rfl
theorem bi_sound {b : Bi} (hK : X.K = g.K) (hc : b.cool = false → X.calm = true) (hgd : X.A.guards = some []) (hu : X.A.units + 66 < cLine) (fz : Bool) : CallR X b.val (RCd g (biS fz b)) := by
  intro pins s σ H vs us Q I rv ⟨ds, S, Qd, rd, rs, h, k⟩
  unfold biS at h
  split at h
  · obtain ⟨v, rfl, r⟩ := rd.one
    obtain ⟨rfl, c⟩ := r.ofStr
    exact call_len_str pins s σ H _ us Q I rv ⟨_, rfl, by rw [mkS_len]; exact lim_size h.1, by rw [mkS_len]; exact k.here rs rd_int h.2⟩
  · obtain ⟨v, rfl, r⟩ := rd.one
    obtain ⟨xs, e, q⟩ := h
    obtain ⟨p, ws, rfl, sq, r'⟩ := r.seq rs e
    exact call_len_seq pins s σ H _ us Q I rv ⟨p, ws, rfl, hK ▸ sq, by rw [← r'.length]; exact k.here rs rd_int q⟩
  · obtain ⟨v, rfl, r⟩ := rd.one
    obtain ⟨bs, rfl, q⟩ := h
    obtain ⟨p, ws, rfl, sq, r'⟩ := r.lst
    rw [r'.bls] at sq
    exact cr_all (hc rfl) pins s σ H _ us Q I rv ⟨p, bs, rfl, .inl sq, k.here rs rd_bl q⟩
  · obtain ⟨v, rfl, r⟩ := rd.one
    obtain ⟨bs, rfl, q⟩ := h
    obtain ⟨p, ws, rfl, sq, r'⟩ := r.lst
    rw [r'.bls] at sq
    exact cr_any (hc rfl) pins s σ H _ us Q I rv ⟨p, bs, rfl, .inl sq, k.here rs rd_bl q⟩
  · obtain ⟨v, rfl, r⟩ := rd.one
    rw [r.ofInt] at rv
    exact call_abs pins s σ H _ us Q I rv ⟨_, rfl, k.here rs rd_int h⟩
  · obtain ⟨v, v', rfl, r, r'⟩ := rd.two
    rw [r.ofInt, r'.ofInt] at rv
    exact call_max2 (hc rfl) pins s σ H _ us Q I rv ⟨_, _, rfl, k.here rs rd_int h⟩
  · obtain ⟨v, v', rfl, r, r'⟩ := rd.two
    rw [r.ofInt, r'.ofInt] at rv
    exact call_min2 (hc rfl) pins s σ H _ us Q I rv ⟨_, _, rfl, k.here rs rd_int h⟩
  · obtain ⟨v, rfl, r⟩ := rd.one
    rw [r.ofInt] at rv
    exact call_int1 pins s σ H _ us Q I rv (.inl ⟨_, rfl, k.here rs rd_int h⟩)
  · obtain ⟨v, rfl, r⟩ := rd.one
    rw [r.ofBl] at rv
    exact call_int1 pins s σ H _ us Q I rv (.inr ⟨_, rfl, k.here rs rd_int h⟩)
  · obtain ⟨v, rfl, r⟩ := rd.one
    rw [r.ofInt] at rv
    refine call_str_int pins s σ H _ us Q I rv ⟨_, rfl, ?_, ?_⟩
    · have h1 := h.1
      by_cases z : Int.natAbs ‹Int› = 0
      · rw [z]; decide
      · exact Nat.lt_trans ((Nat.log2_lt z).mpr (Nat.lt_of_lt_of_le h1 (by decide : 10 ^ 9 ≤ 2 ^ 30))) (by decide)
    · rw [ofString_digits]
      exact k.here rs (rd_str (digits_ok _)) h.2
  · obtain ⟨v, rfl, r⟩ := rd.one
    obtain ⟨rfl, c⟩ := r.ofStr
    exact SkE.call_str_str pins s σ H _ us Q I rv ⟨_, rfl, k.here rs (rd_str c) h⟩
  · obtain ⟨v, rfl, r⟩ := rd.one
    obtain ⟨rfl, c⟩ := r.ofStr
    obtain ⟨u, rfl, t, rfl⟩ := vals1 rv
    refine PySem.call_tuple_str (I.ok.hd (hc rfl)) _ t (fun h' tk acc hk hacc => ?_) (by rw [show (mkS _).cps.size = _ from mkS_len _]; exact lim_size h.1)
    have vv := vals_signs hacc
    have I1 : L2.Inv X pins σ H { s with heap := h', toks := tk } := I.kept (t' := tk) hk
    have hfr : H h'.objs.size = none := I1.hok.fresh (Nat.le_refl _)
    refine ⟨.ref h'.objs.size, upd H h'.objs.size (.tup _), I1.laid (t' := tk) (o := .tup _) (fun b o q => Heap.get?_push_of_some _ q) (Nat.le_refl _) ⟨?_, acc.toList, vv, ⟨_, Heap.get?_push_size _ rfl, rfl, 0, by simp⟩⟩, rfl, k.newT rs (rds_signs c) h.2 _ hfr⟩
    rw [List.length_map]
    exact lim_size h.1
  · obtain ⟨v, rfl, r⟩ := rd.one
    obtain ⟨xs, e, q⟩ := h
    obtain ⟨p, ws, rfl, sq, r'⟩ := r.seq rs e
    rename_i d hne
    cases d with
    | tup ys =>
      simp only [seqOf, Option.some.injEq] at e
      subst e
      obtain ⟨p', ws', e', sq', _⟩ := r.tup
      cases e'
      exact call_tuple_of pins s σ H _ us Q I rv ⟨p, ws', rfl, .inr ⟨hK ▸ sq', k.here rs r q⟩⟩
    | _ =>
      first
      | (cases e; done)
      | (obtain ⟨p', ws', e', sq', r''⟩ := r.seqL rs e (fun ys z => by cases z)
         cases e'
         exact call_tuple_of pins s σ H _ us Q I rv ⟨p, ws', rfl, .inl ⟨hK ▸ sq', fun l hl => k.newT rs r'' q l hl⟩⟩)
  · obtain ⟨v, rfl, r⟩ := rd.one
    obtain ⟨rfl, c⟩ := r.ofStr
    obtain ⟨u, rfl, t, rfl⟩ := vals1 rv
    refine PySem.call_list_str (I.ok.hd (hc rfl)) _ t (fun h' tk acc c' hk hS hacc => ?_) (by rw [show (mkS _).cps.size = _ from mkS_len _]; exact lim_size h.1)
    have vv := vals_signs hacc
    refine ⟨.ref s.heap.objs.size, upd H s.heap.objs.size (.lst _), I.laid (t' := tk) (o := .lst _) hk (Nat.le_refl _) ⟨?_, acc.toList, c', vv, by simpa using hS⟩, rfl, k.newL rs (rds_signs c) h.2 _ (I.hok.fresh (Nat.le_refl _))⟩
    rw [List.length_map]
    exact lim_size h.1
  · obtain ⟨v, rfl, r⟩ := rd.one
    obtain ⟨xs, e, q⟩ := h
    obtain ⟨p, ws, rfl, sq, r'⟩ := r.seq rs e
    exact call_list_of pins s σ H _ us Q I rv ⟨p, ws, rfl, hK ▸ sq, fun l hl => k.newL rs r' q l hl⟩
  · obtain ⟨v, rfl, r⟩ := rd.one
    obtain ⟨⟨hC, hp, hdp, hsh, hsz⟩, q⟩ := h
    rename_i d
    obtain ⟨u, rfl, ru⟩ := vals1 rv
    have hv : ∃ a, v = .ref a := by
      cases d with
      | tup xs => obtain ⟨a, _, e, _⟩ := r.tup; exact ⟨a, e⟩
      | lst xs => obtain ⟨a, _, e, _⟩ := r.lst; exact ⟨a, e⟩
      | _ => cases hC
    obtain ⟨a, rfl⟩ := hv
    obtain rfl : u = Value.ref a := ru
    have hdp' := r.dp d _ hp
    rw [← hK] at hdp'
    obtain ⟨as, rr⟩ := Dp.reads I (toPy d) _ _ hdp' (rfl : RelV (.ref a) (.ref a))
    refine PySem.repr_of_reads' rr hsh (fun z => by rw [no_dict d] at z; cases z) hgd (by rw [depth_py d]; omega) (fun _ _ e => e) (fun h' t tk hk => ?_) ?_
    · refine ⟨.str (mkS (reprD d)), H, I.kept (t' := tk) hk, ⟨t, ?_⟩, k.here rs (rd_str (shown_ok d (r.lay d _ hp))) q⟩
      unfold reprD
      rw [mkS_eta]
    · exact lim_size hsz
  · obtain ⟨v, v', rfl, r, r'⟩ := rd.two
    rw [r.ofInt, r'.ofInt] at rv
    exact call_divmod pins s σ H _ us Q I rv ⟨_, _, rfl, ⟨h.1, h.2.1⟩, fun p hp => k.newT rs (RDs.cons rd_int (RDs.cons rd_int RDs.nil)) h.2.2 p hp⟩
  · obtain ⟨v, rfl, r⟩ := rd.one
    obtain ⟨xs, e, ok, q⟩ := h
    obtain ⟨p, ws, rfl, sq, r'⟩ := r.seq rs e
    obtain ⟨u, rfl, ru⟩ := vals1 rv
    obtain rfl : u = Value.ref p := ru
    exact run_sorted hK hu I (hK ▸ sq) r' ok fun l us hl rd' => k.newL rs rd' q l hl
  · obtain ⟨v, rfl, r⟩ := rd.one
    obtain ⟨ns, e, q⟩ := h
    obtain ⟨p, ws, rfl, sq, r'⟩ := seqL_rd rs r e
    rw [rds_intsV r'] at sq
    exact cr_sum (hc rfl) pins s σ H _ us Q I rv ⟨p, ns, rfl, hK ▸ sq, k.here rs rd_int q⟩
  · obtain ⟨v, rfl, r⟩ := rd.one
    rw [r.ofInt] at rv
    exact call_bool1 pins s σ H _ us Q I rv (.inl ⟨_, rfl, k.here rs rd_bl h⟩)
  · obtain ⟨v, rfl, r⟩ := rd.one
    rw [r.ofBl] at rv
    exact call_bool1 pins s σ H _ us Q I rv (.inr ⟨_, rfl, k.here rs rd_bl h⟩)
  · exact h.elim
end
end G
/-! GR: rows turned about, rows put behind a list. -/
namespace G
open PySem PySem.Spec PyProof.Rows L2 AutoSeq1
/-! ### x.extend(row) -/
theorem ext_meets (T : String) (hT : T = "list" ∨ T = "tuple") (l b : Addr) (xs ys : Array Value) (n m : Nat) (dd : Option Addr) (sl : Array (Option Value)) (h1 : ¬(!xs.isEmpty && Builtin.List.listTooLong (xs.size + ys.size)) = true) (h2 : xs.size ≤ sizeLine) (h3 : xs.size + ys.size ≤ sizeLine + 1) :
    Meets (Builtin.«list.extend» ⟨[.ref l, .ref b], []⟩) (fun _ R s => s.heap.get? l = some { cls := .type "list", dict := none, data := .seq xs n, slots := #[] } ∧ s.heap.get? b = some ⟨.type T, dd, .seq ys m, sl⟩ ∧
      R (.ok (.ret Value.none)) { s with heap := s.heap.update l (Obj.mapSeq fun x => x ++ ys), toks := s.toks }) := by
  have h4 : (xs ++ ys).size ≤ sizeLine + 1 := by rw [Array.size_append]; exact h3
  rcases hT with rfl | rfl
  · refine .of_wp fun prog w A R s q => ?_
    obtain ⟨hp, gs, dr, tk, os⟩ := s
    obtain ⟨q1, q2, q3⟩ := q
    have f2 := AutoSeq1.sub_tuple_tuple; have f3 := AutoSeq1.sub_list_list; have f4 := AutoSeq1.sub_tuple_list; have f5 := AutoSeq1.sub_list_tuple
    wp_walk using (wpAny_updateSeq q1 rfl (hz := h2) (_hz' := h4)), wpAny_loadPart' q1, wpAny_loadPart' q2
    exact ⟨_, rfl, q3⟩
  · refine .of_wp fun prog w A R s q => ?_
    obtain ⟨hp, gs, dr, tk, os⟩ := s
    obtain ⟨q1, q2, q3⟩ := q
    have f2 := AutoSeq1.sub_tuple_tuple; have f3 := AutoSeq1.sub_list_list; have f4 := AutoSeq1.sub_tuple_list; have f5 := AutoSeq1.sub_list_tuple
    wp_walk using (wpAny_updateSeq q1 rfl (hz := h2) (_hz' := h4)), wpAny_loadPart' q1, wpAny_loadPart' q2
    exact ⟨_, rfl, q3⟩
section
variable {X : Cx} {g : Gx} {S S0 S1 S' : Sto} {H H0 H1 H' : Hp} {ρ : Sl} {σ : L2.St}
def rExtA (K : PySem.W.Frag) : V → List V → Hp → VK → Prop := fun x vs H Q => ∃ l b xs zs, x = .ref l ∧ vs = [.ref b] ∧ H l = some (.lst xs) ∧ (SqL K H b zs ∨ SqT K H b zs) ∧ xs.length + zs.length ≤ sizeLine ∧ Q .non (upd H l (.lst (xs ++ zs)))
theorem mt_ext : MtR X "list.extend" (rExtA X.K) := by
  intro pins s σ H x vs v us Q I rx rv q
  obtain ⟨l, b, xs, zs, rfl, rfl, hl, hb, hz, q⟩ := q
  cases rx
  obtain ⟨u, rfl, ru⟩ := rv.one
  cases ru
  obtain ⟨z, its, n, r, e1, e2⟩ := I.lstM hl
  have go : ∀ (T : String) (its2 : List Value) (m : Nat) (dd : Option Addr) (sl : Array (Option Value)), (T = "list" ∨ T = "tuple") → Vals zs its2 → s.heap.get? b = some ⟨.type T, dd, .seq its2.toArray m, sl⟩ → wpAny (model X.prog X.w) X.A (call (.builtin "list.extend") [.ref l, .ref b]) (EP X pins σ Q) X.xe s := by
    intro T its2 m dd sl hT r2 e3
    have l2 := r2.length
    have sz : its.toArray.size + its2.toArray.size ≤ sizeLine := by simp only [List.size_toArray]; omega
    have lg : ¬ (!its.toArray.isEmpty && Builtin.List.listTooLong (its.toArray.size + its2.toArray.size)) = true := by rw [notLongL sz, Bool.and_false]; exact Bool.false_ne_true
    refine call_meets PySem.F.slot_list_extend ⟨_, e2, rfl⟩ PySem.F.entry_list_extend (PySem.F.args_list_extend_2 _ _) (ext_meets T hT l b its.toArray its2.toArray n m dd sl lg (by simp only [List.size_toArray]; omega) (by omega)) ⟨e2, e3, ?_⟩
    exact ⟨.non, _, I.lset (its' := its ++ its2) hl e2 (by simp) (r.append r2) (by simp only [List.length_append]; omega), rfl, q⟩
  rcases hb with hb | hb
  · obtain ⟨its2, r2, ⟨⟨oc, od, odat, osl⟩, m, e3, c1, c2, c3⟩, _⟩ := I.list hb
    cases c1
    cases c2
    cases c3
    exact go "list" its2 m _ _ (.inl rfl) r2 e3
  · obtain ⟨its2, r2, ⟨⟨oc, od, odat, osl⟩, e3, c1, m, c3⟩, _⟩ := I.tuple hb
    cases c1
    cases c3
    exact go "tuple" its2 m _ _ (.inr rfl) r2 e3
/-! ### row[::-1] -/
end
/-! ### row[::n] -/
end G
/-! GC: sets that a comprehension lays, their members ints. -/
/-! G5: methods; the match of the small syntax with the program's text; contexts. -/
namespace G
open PySem L2
section
variable {X : Cx} {g : Gx} {S S0 S1 S' : Sto} {H H0 H1 H' : Hp} {ρ : Sl} {σ : L2.St}
def RMd (g : Gx) (o : D → List D → Sto → QV → Prop) : V → List V → Hp → VK → Prop := fun x vs H Q => ∃ d ds S Qd, RD g S H d x ∧ RDs g S H ds vs ∧ RS g S H ∧ o d ds S Qd ∧ Cont g S H Qd Q
theorem joinL_jn (sep : List Nat) : ∀ ss : List (List Nat), TL.joinL sep ss = jn sep ss
  | [] => rfl
  | [p] => rfl
  | p :: q :: r => by
    show p ++ (sep ++ TL.joinL sep (q :: r)) = p ++ (sep ++ jn sep (q :: r))
    rw [joinL_jn sep (q :: r)]
theorem jn_tl (sep : List Nat) (ss : List (List Nat)) : (Txt.join (mkS sep) (ss.map mkS)).cps.toList = jn sep ss := by
  rw [TL.join_eq]
  have e := TL.tl_join (mkS sep) (ss.map mkS)
  have e2 : ∀ s : List Nat, TL.tl (mkS s) = s := mkS_list
  show TL.tl _ = _
  rw [e, e2, List.map_map, show (TL.tl ∘ mkS) = id from funext e2, List.map_id, joinL_jn]
theorem jn_ok {sep : List Nat} {P : Nat → Prop} (hs : ∀ c ∈ sep, P c) : ∀ {ss : List (List Nat)}, (∀ s ∈ ss, ∀ c ∈ s, P c) → ∀ c ∈ jn sep ss, P c
  | [], _, c, hc => by simp [jn] at hc
  | [p], h, c, hc => h p (by simp) c hc
  | p :: q :: r, h, c, hc => by
    unfold jn at hc
    rcases List.mem_append.mp hc with hc | hc
    · exact h p (by simp) c hc
    · rcases List.mem_append.mp hc with hc | hc
      · exact hs c hc
      · exact jn_ok hs (fun s hs' => h s (by simp [hs'])) c hc
theorem RS.put (rs : RS g S H) {a : Addr} {xs ys : List D} {vs us : List V} (hs : S a = some (.lst xs)) (h : H a = some (.lst vs)) (r : RDs g S H ys us) :
    RS g (S.set a (.lst ys)) (upd H a (.lst us)) ∧ Step S H (S.set a (.lst ys)) (upd H a (.lst us)) := by
  have st : Step S H (S.set a (.lst ys)) (upd H a (.lst us)) := Step.write (.inl (by rw [hs]; exact fun z => nomatch z))
  exact ⟨rs.write (.inl (by rw [hs]; exact fun z => nomatch z)) st ⟨us, upd_same, r.mono st⟩ (fun b e => by rw [h] at e; cases e), st⟩
theorem cnt_vals {y : V} : ∀ {vs : List V} {us : List Value}, Vals vs us → vs.all flatV = true → us.countP (eqU y) = vs.countP fun z => eqV z y
  | _, _, .nil, _ => rfl
  | _, _, .cons r rs, h => by
    rw [List.all_cons, Bool.and_eq_true] at h
    rw [List.countP_cons, List.countP_cons, cnt_vals rs h.2, eqU_of r h.1]
theorem mt_cnt : MtR X "list.count" (fun x xs H Q => ∃ (a : Addr) (ys : List V) (y : V), x = V.ref a ∧ xs = [y] ∧ SqL X.K H a ys ∧ flatV y = true ∧ ys.all flatV = true ∧ Q (.int (ys.countP fun z => eqV z y : Nat)) H) := by
  intro pins s σ H x xs v us Q I rx rxs h
  obtain ⟨p, ys, y, rfl, rfl, hs, fy, fys, q⟩ := h
  cases rx
  cases rxs with
  | cons ry rt =>
    rename_i uy ut
    cases rt
    obtain ⟨its, rv, ⟨⟨cls, dd, data, sl⟩, n, ho, hc, hdn, hd⟩, hlen⟩ := I.list hs
    simp only at hc hd
    subst hc hd
    refine call_meets PySem.F.slot_list_count ⟨_, ho, rfl⟩ PySem.F.entry_list_count (PySem.F.args_list_count_2 _ _) (SeqAt.list_countAt p its.toArray n dd sl uy (eqU y)) ⟨ho, fun u' hu' => mem_eqAt ry fy rv fys u' (by simpa using hu'), ?_⟩
    have ec : its.toArray.toList.countP (eqU y) = ys.countP fun z => eqV z y := cnt_vals rv fys
    refine ⟨.int (ys.countP fun z => eqV z y : Nat), H, I.tok _, ⟨s.toks, ?_⟩, q⟩
    rw [ec]
theorem cnt_beq {x : D} {v : V} (hx : flat x = true) (rx : RD g S H x v) : ∀ {ds : List D} {vs : List V}, RDs g S H ds vs → ds.all flat = true → vs.all flatV = true ∧ (vs.countP fun z => eqV z v) = ds.countP fun z => beq z x
  | [], vs, h, _ => by unfold RDs at h; subst h; exact ⟨rfl, rfl⟩
  | d :: ds, vs, h, f => by
    unfold RDs at h
    obtain ⟨w, r, rfl, h1, h2⟩ := h
    rw [List.all_cons, Bool.and_eq_true] at f
    obtain ⟨i1, i2⟩ := cnt_beq hx rx h2 f.2
    refine ⟨by rw [List.all_cons, flat_V f.1 h1, i1]; rfl, ?_⟩
    rw [List.countP_cons, List.countP_cons, i2, eqV_beq f.1 hx h1 rx]
theorem idx_of {α : Type} (p : α → Bool) : ∀ {l : List α}, l.any p = true → ∃ z, l[l.findIdx p]? = some z ∧ p z = true
  | [], h => by cases h
  | a :: l, h => by
    rw [List.findIdx_cons]
    cases e : p a with
    | true => exact ⟨a, rfl, e⟩
    | false =>
      rw [List.any_cons, e, Bool.false_or] at h
      obtain ⟨z, h1, h2⟩ := idx_of p h
      exact ⟨z, by simpa using h1, h2⟩
theorem RDs.erase : ∀ {ds : List D} {vs : List V} (n : Nat), RDs g S H ds vs → RDs g S H (ds.eraseIdx n) (vs.eraseIdx n)
  | [], vs, n, h => by unfold RDs at h; subst h; simp; exact RDs.nil
  | d :: ds, vs, n, h => by
    unfold RDs at h
    obtain ⟨v, r, rfl, h1, h2⟩ := h
    cases n with
    | zero => simpa using h2
    | succ n => simpa using RDs.cons h1 (RDs.erase n h2)
mutual
theorem plain_py : ∀ d : D, plain d = true → (toPy d).plain = true
  | .non, _ => by unfold toPy PyData.plain; rfl
  | .bl _, _ => by unfold toPy PyData.plain; rfl
  | .int _, _ => by unfold toPy PyData.plain; rfl
  | .str _, _ => by unfold toPy PyData.plain; rfl
  | .tup xs, h => by unfold plain at h; unfold toPy PyData.plain; exact plains_py xs h
  | .lst xs, h => by unfold plain at h; unfold toPy PyData.plain; exact plains_py xs h
  | .lsk _, h => by unfold plain at h; cases h
  | .obj _, h => by unfold plain at h; cases h
  | .ty _, h => by unfold plain at h; cases h
  | .gl _, h => by unfold plain at h; cases h
  | .ins _ _ _, h => by unfold plain at h; cases h
  | .dct _ _, h => by unfold plain at h; cases h
  | .exn _ _ _, h => by unfold plain at h; cases h
theorem plains_py : ∀ ds : List D, plains ds = true → PyData.plainAll (toPys ds) = true
  | [], _ => by unfold toPys PyData.plainAll; rfl
  | d :: ds, h => by
    unfold plains at h
    rw [Bool.and_eq_true] at h
    unfold toPys PyData.plainAll
    rw [plain_py d h.1, plains_py ds h.2]; rfl
end
theorem place_of {x : D} (px : plain x = true) : ∀ {xs : List D} {j : Nat} {z : D}, plains xs = true → xs[j]? = some z → beq z x = true → (∀ m d, m < j → xs[m]? = some d → beq d x = false) → PySem.SeqAt.dataPlace (toPys xs) (toPy x) = some j := by
  intro xs j z hp hj hb hno
  unfold PySem.SeqAt.dataPlace
  have len : ∀ l : List D, (toPys l).length = l.length := fun l => by
    induction l with
    | nil => rfl
    | cons a r ih => unfold toPys; simp [ih]
  have get : ∀ (l : List D) (i : Nat), (toPys l)[i]? = (l[i]?).map toPy := fun l => by
    induction l with
    | nil => intro i; unfold toPys; simp
    | cons a r ih =>
      intro i
      unfold toPys
      cases i with
      | zero => simp
      | succ i => simpa using ih i
  have pm : ∀ (l : List D), plains l = true → ∀ d ∈ l, plain d = true := fun l => by
    induction l with
    | nil => intro _ d hd; cases hd
    | cons a r ih =>
      intro h d hd
      unfold plains at h
      rw [Bool.and_eq_true] at h
      rcases List.mem_cons.mp hd with rfl | hd
      · exact h.1
      · exact ih h.2 d hd
  rw [List.findIdx?_eq_some_iff_getElem]
  obtain ⟨hjl, ej⟩ := List.getElem?_eq_some_iff.mp hj
  have at_ : ∀ i (h : i < (toPys xs).length), (toPys xs)[i] = toPy (xs[i]'(by rw [len] at h; exact h)) := fun i h => by
    have e := get xs i
    rw [List.getElem?_eq_getElem h, List.getElem?_eq_getElem (by rw [len] at h; exact h)] at e
    exact Option.some.inj e
  refine ⟨by rw [len]; exact hjl, ?_, fun i hi => ?_⟩
  · rw [at_, ej, beq_py _ _ (pm xs hp z (List.mem_of_getElem? hj)) px]; exact hb
  · have hil : i < xs.length := by omega
    have := hno i xs[i] hi (List.getElem?_eq_getElem hil)
    rw [at_, beq_py _ _ (pm xs hp _ (List.getElem_mem _)) px, this]; simp
theorem run_remove {pins : List (Addr × Obj)} {s : Shared} {a : Addr} {ws : List V} {xs : List D} {x z : D} {v : V} {u : Value} {j : Nat} {Q : VK} (hK : X.K = g.K) (hu : X.A.units + 66 < cLine) (I : L2.Inv X pins σ H s) (hw : H a = some (.lst ws)) (r : RDs g S H xs ws) (rx : RD g S H x v) (ru : RelV v u)
    (p1 : plains xs = true) (p2 : plain x = true) (hd : depths xs ≤ 60) (hz : ws.length ≤ sizeLine) (hj : xs[j]? = some z) (hb : beq z x = true) (hno : ∀ m d, m < j → xs[m]? = some d → beq d x = false) (q : Q .non (upd H a (.lst (ws.eraseIdx j)))) :
    wpAny (model X.prog X.w) X.A (call (.builtin "list.remove") [.ref a, u]) (EP X pins σ Q) X.xe s := by
  obtain ⟨z1, its, n, rv, hl, e⟩ := I.lstM hw
  have dx := rx.dp x _ p2
  have ds := r.dp xs _ p1
  rw [← hK] at dx ds
  obtain ⟨as, ra⟩ := Dp.readsAll I (toPys xs) ws its ds rv
  obtain ⟨bs, rb⟩ := Dp.reads I (toPy x) v u dx ru
  refine PySem.SeqAt.remove_list_data (vs := its.toArray) ⟨_, e, rfl, n, rfl⟩ (by simpa using ra) rb (plains_py xs p1) (plain_py x p2) ?_ (place_of p2 p1 hj hb hno) (by rw [List.size_toArray, ← hl]; exact hz) ?_
  · rw [depths_py xs]
    have := Nat.min_le_left (depths xs) (toPy x).depth
    omega
  · refine ⟨.non, _, I.lset (its' := its.eraseIdx j) (t' := s.toks) hw e ?_ (rv.eraseIdx j) ?_, rfl, q⟩
    · show its.toArray.eraseIdxIfInBounds j = (its.eraseIdx j).toArray
      rw [List.eraseIdxIfInBounds_toArray]
    · have := List.length_eraseIdx_le ws j
      omega
theorem me_sound (hK : X.K = g.K) (hu : X.A.units + 66 < cLine) (m : Me) : MtR X m.id (RMd g (meS m)) := by
  intro pins s σ H x vs v us Q I rx rv ⟨d, ds, S, Qd, r1, r2, rs, h, k⟩
  unfold meS at h
  split at h
  · obtain ⟨xs, ss, e, rfl, hz, q⟩ := h
    obtain ⟨rfl, c0⟩ := r1.ofStr
    obtain ⟨v', rfl, r⟩ := r2.one
    obtain ⟨p, ws, rfl, sq, r'⟩ := r.seq rs e
    obtain ⟨e', c⟩ := r'.strs
    subst e'
    refine mt_join pins s σ H _ _ v us Q I rx rv ⟨_, p, _, rfl, rfl, hK ▸ sq, ?_, ?_⟩
    · rw [List.map_map, List.length_map, mkS_len, show ((fun x => x.length) ∘ mkS) = List.length from funext mkS_len]
      exact lim_size hz
    · rw [← mkS_eta (Txt.join _ _), jn_tl]
      exact k.here rs (rd_str (jn_ok c0 c)) q
  · obtain ⟨xs, hs, hz, q⟩ := h
    rw [r1.ofObj] at rx
    obtain ⟨v', rfl, r⟩ := r2.one
    obtain ⟨ws, hw, r'⟩ := (rs.1 _ _ hs).2
    have pt := rs.put hs hw (r'.append (RDs.cons r RDs.nil))
    exact mt_append pins s σ H _ _ v us Q I rx rv ⟨_, ws, v', rfl, rfl, hw, by rw [← r'.length]; exact lim_size' hz, k _ _ _ _ rd_non pt.1 pt.2 q⟩
  · obtain ⟨xs, ys, hs, e, hz, q⟩ := h
    rw [r1.ofObj] at rx
    obtain ⟨v', rfl, r⟩ := r2.one
    obtain ⟨p, zs, rfl, sq, r3⟩ := r.seq rs e
    obtain ⟨ws, hw, r'⟩ := (rs.1 _ _ hs).2
    have pt := rs.put hs hw (r'.append r3)
    exact mt_ext pins s σ H _ _ v us Q I rx rv ⟨_, p, ws, zs, rfl, rfl, hw, hK ▸ sq, by rw [← r'.length, ← r3.length]; exact lim_size hz, k _ _ _ _ rd_non pt.1 pt.2 q⟩
  · obtain ⟨xs, e, f1, f2, q⟩ := h
    obtain ⟨v', rfl, r⟩ := r2.one
    obtain ⟨p, ws, rfl, sq, r'⟩ := seqL_rd rs r1 e
    obtain ⟨i1, i2⟩ := cnt_beq f1 r r' f2
    exact mt_cnt pins s σ H _ _ v us Q I rx rv ⟨p, ws, v', rfl, rfl, hK ▸ sq, flat_V f1 r, i1, by rw [i2]; exact k.here rs rd_int q⟩
  · obtain ⟨xs, e, f1, f2, ha, q⟩ := h
    obtain ⟨v', rfl, r⟩ := r2.one
    obtain ⟨p, ws, rfl, sq, r'⟩ := seqL_rd rs r1 e
    obtain ⟨i1, i2⟩ := cnt_beq f1 r r' f2
    obtain ⟨z, hz, hb⟩ := idx_of _ ha
    obtain ⟨w, hw, rw'⟩ := r'.get _ _ hz
    refine mt_index pins s σ H _ _ v us Q I rx rv ⟨p, ws, v', _, w, rfl, rfl, hK ▸ sq, flat_V f1 r, i1, hw, ?_, fun m z' hm hz' => ?_, k.here rs rd_int q⟩
    · rw [eqV_beq (List.all_eq_true.mp f2 z (List.mem_of_getElem? hz)) f1 rw' r]; exact hb
    · obtain ⟨d', hd', rd'⟩ := r'.get' m z' hz'
      rw [eqV_beq (List.all_eq_true.mp f2 d' (List.mem_of_getElem? hd')) f1 rd' r]
      have := List.not_of_lt_findIdx hm
      have e2 := (List.getElem?_eq_some_iff.mp hd').2
      rw [e2] at this
      simpa using this
  · obtain ⟨xs, hs, hz, p1, p2, hd, ha, q⟩ := h
    rw [r1.ofObj] at rx
    cases rx
    obtain ⟨v', rfl, r⟩ := r2.one
    obtain ⟨u', rfl, ru⟩ := vals1 rv
    obtain ⟨ws, hw, r'⟩ := (rs.1 _ _ hs).2
    obtain ⟨z, hjz, hb⟩ := idx_of _ ha
    exact run_remove hK hu I hw r' r ru p1 p2 hd (by rw [← r'.length]; exact lim_size hz) hjz hb (fun m d hm hd' => by
      have := List.not_of_lt_findIdx hm
      rw [(List.getElem?_eq_some_iff.mp hd').2] at this
      simpa using this) (by
        exact k _ _ _ _ rd_non (rs.put hs hw (r'.erase _)).1 (rs.put hs hw (r'.erase _)).2 q)
  · obtain ⟨xs, hs, hz, i0, i1, q⟩ := h
    rw [r1.ofObj] at rx
    obtain ⟨v', v'', rfl, r, r''⟩ := r2.two
    obtain ⟨ws, hw, r'⟩ := (rs.1 _ _ hs).2
    rw [r.ofInt] at rv
    rename_i i d
    have pt := rs.put hs hw (((r'.take i.toNat).append (RDs.cons r'' RDs.nil)).append (r'.drop i.toNat))
    exact mt_insert pins s σ H _ _ v us Q I rx rv ⟨_, ws, _, v'', rfl, rfl, hw, by rw [← r'.length]; exact lim_size' hz, i0, by omega, k _ _ _ _ rd_non pt.1 pt.2 q⟩
  · obtain ⟨rfl, y, xs, hs, q⟩ := h
    rw [r1.ofObj] at rx
    obtain ⟨v', rfl, r⟩ := r2.one
    obtain ⟨ws, hw, r'⟩ := (rs.1 _ _ hs).2
    rw [r.ofInt] at rv
    unfold RDs at r'
    obtain ⟨y', ws', rfl, ry, rw'⟩ := r'
    have pt := rs.put hs hw rw'
    exact mt_popAt pins s σ H _ _ v us Q I rx rv ⟨_, y' :: ws', 0, 0, y', rfl, rfl, hw, by decide, by decide, by unfold seqIndex?; simp, rfl, k _ _ _ _ (ry.mono pt.2) pt.1 pt.2 q⟩
  · exact h.elim
end
/-! ### the match -/
/-- range(n) -/
def It.rg : It → Bool
  | .range (.cons _ .nil) => true
  | .seq _ => true
  | _ => false
structure Sc where
  N : List Str
  sc : Scope
  fn : Str → Bool
  hot : Bool
  /-- within a comprehension while an error is held -/
  deep : Bool
/-- within a comprehension -/
def Sc.blk (c : Sc) (scope : Scope) : Sc := ⟨c.N, relS scope c.sc, fun x => scope.names.lookup x == some .cell, c.hot, c.hot⟩
def Sc.kd (c : Sc) (x : Str) : Option NameKind := c.sc.names.lookup x
def visB : Option NameKind → Bool
  | some .local => true
  | some .cell => true
  | some .free => true
  | _ => false
def locB : Option NameKind → Bool
  | some .local => true
  | some .cell => true
  | _ => false
def glB : Option NameKind → Bool
  | some .globalImplicit => true
  | _ => false
def noStar : Expr → Bool
  | .Starred _ _ => false
  | _ => true
def plainSlice : Expr → Bool
  | .Slice _ _ _ _ => false
  | _ => true
def noSet : Expr → Bool
  | .Set _ _ _ => false
  | _ => true
/-- a thing whose attribute is asked: no super() -/
def noSup : Expr → Bool
  | .Call (.Name _ _) [] [] _ => false
  | _ => true
def opB : Operator → Operator → Bool
  | .Add, .Add | .Sub, .Sub | .Mult, .Mult | .FloorDiv, .FloorDiv | .Mod, .Mod | .Pow, .Pow | .LShift, .LShift | .RShift, .RShift | .BitAnd, .BitAnd | .BitOr, .BitOr | .BitXor, .BitXor => true
  | _, _ => false
def cmB : CmpOp → CmpOp → Bool
  | .Eq, .Eq | .NotEq, .NotEq | .Lt, .Lt | .LtE, .LtE | .Gt, .Gt | .GtE, .GtE | .Is, .Is | .IsNot, .IsNot | .In, .In | .NotIn, .NotIn => true
  | _, _ => false
theorem opB_eq {a b : Operator} (h : opB a b = true) : a = b := by cases a <;> cases b <;> first | rfl | cases h
theorem cmB_eq {a b : CmpOp} (h : cmB a b = true) : a = b := by cases a <;> cases b <;> first | rfl | cases h
def boB : BoolOp → BoolOp → Bool
  | .And, .And | .Or, .Or => true
  | _, _ => false
theorem boB_eq {a b : BoolOp} (h : boB a b = true) : a = b := by cases a <;> cases b <;> first | rfl | cases h
def mC : D → Const → Bool
  | .non, .none => true
  | .bl a, .bool b => a == b
  | .int a, .int b => a == b
  | .str s, .str x => decide (mkS s = x) && s.all fun c => decide (c < 0x110000)
  | _, _ => false
/-- the names of a comprehension's own -/
def ownOf (N : List Str) (is : List Nat) : List (Str × Nat) := is.filterMap fun i => (N[i]?).map fun x => (x, i)
def dbg : Str := "__debug__"
def cdt : Str := "__classdict__"
mutual
def mG (c : Sc) : Tg → Expr → Bool
  | .name i, .Name x _ => c.N[i]? == some x && (match c.kd x with | some .local => true | some .cell => c.fn x | _ => false)
  | .tup r, .Tuple es _ _ => !c.hot && mGs c r es
  | _, _ => false
def mGs (c : Sc) : Tgs → List Expr → Bool
  | .nil, [] => true
  | .cons t r, e :: es => noStar e && mG c t e && mGs c r es
  | _, _ => false
end
/-- names of classes -/
def mNs (c : Sc) : List Str → List Expr → Bool
  | [], [] => true
  | C :: r, .Name y _ :: ys => C == y && glB (c.kd y) && !(y == dbg) && mNs c r ys
  | _, _ => false
mutual
def mE (c : Sc) : E → Expr → Bool
  | .loc i, .Name x _ => c.N[i]? == some x && visB (c.kd x) && !(x == dbg) && !(x == cdt)
  | .const d, .Constant k _ _ => mC d k
  | .glob x, .Name y _ => x == y && glB (c.kd x) && !(x == dbg)
  | .bin op a b, .BinOp a' op' b' _ => opB op op' && mE c a a' && mE c b b'
  | .neg a, .UnaryOp op a' _ => (match op with | .USub => true | _ => false) && mE c a a'
  | .cmp op a b, .Compare a' ops bs _ => (match ops, bs with
    | [op'], [b'] => cmB op op' && mE c a a' && mE c b b' && noSet b'
    | _, _ => false)
  | .oeq ne C a b, .Compare a' ops bs _ => !c.hot && (match ops, bs with
    | [op'], [b'] => cmB (if ne = true then .NotEq else .Eq) op' && mE c a a' && mE c b b' && noSet b'
    | _, _ => false)
  | .cmp2 op1 op2 a b d, .Compare a' ops bs _ => (match ops, bs with
    | [o1, o2], [b', d'] => cmB op1 o1 && cmB op2 o2 && mE c a a' && mE c b b' && mE c d d' && noSet d'
    | _, _ => false)
  | .bool op es, .BoolOp op' es' _ => boB op op' && mEs c es es' && !es'.isEmpty
  | .not a, .UnaryOp op a' _ => (match op with | .Not => true | _ => false) && mE c a a'
  | .ite t a b, .IfExp t' a' b' _ => mE c t t' && mE c a a' && mE c b b'
  | .call f es _, .Call fx es' ks _ => (match fx, ks with
    | .Name x _, [] => f == x && glB (c.kd x) && !(x == dbg) && mEs c es es' && !c.hot
    | _, _ => false)
  | .make _ C es _, .Call fx es' ks _ => (match fx, ks with
    | .Name x _, [] => C == x && glB (c.kd x) && !(x == dbg) && mEs c es es' && !c.hot
    | _, _ => false)
  | .bi _ b es, .Call fx es' ks _ => (match fx, ks with
    | .Name x _, [] => b.nm == x && glB (c.kd x) && mEs c es es' && !es'.isEmpty && (!c.hot || b.cool)
    | _, _ => false)
  | .isi a t, .Call fx es' ks _ => (match fx, ks, es' with
    | .Name x _, [], [a', .Name y _] => x == ("isinstance" : Str) && glB (c.kd x) && glB (c.kd y) && (match t with | .b n => biTys.contains n && Str.ofString n == y | .o C => C == y) && !(y == dbg) && noStar a' && mE c a a'
    | _, _, _ => false)
  | .meth m o es, .Call fx es' ks cpos => (match fx, ks with
    | .Attribute o' x apos, [] => m.nm == x && mE c o o' && noSup o' && mEs c es es' && !es'.isEmpty && decide (es'.length < 30) && (apos.endLine == cpos.line)
    | _, _ => false)
  | .own o C m es, .Call fx es' ks cpos => (match fx, ks with
    | .Attribute o' x apos, [] => m == x && mE c o o' && noSup o' && mEs c es es' && decide (es'.length < 30) && (apos.endLine == cpos.line) && !c.hot
    | _, _ => false)
  | .attr o f, .Attribute o' x _ => f == x && mE c o o' && noSup o'
  | .sub o i, .Subscript o' i' _ => mE c o o' && mE c i i' && plainSlice i'
  | .sl o lo hi, .Subscript o' i' _ => (match i' with
    | .Slice lo' hi' none _ => mE c o o' && mO c lo lo' && mO c hi hi'
    | _ => false)
  | .tup es, .Tuple es' _ _ => mEs c es es'
  | .lst _ es, .List es' _ => mEs c es es'
  | .lc _ elt tg it ifs, .ListComp elt' gs scope _ => (!c.hot || (!c.deep && it.rg)) && (match gs with
    | [⟨tg', it', ifs', 0⟩] => mI c it it' tg' && noSet it' && blkC c.N c.sc scope (ownOf c.N (tgSlots tg)) && decide ((ownOf c.N (tgSlots tg)).length = (tgSlots tg).length) &&
      mG (c.blk scope) tg tg' && mE (c.blk scope) elt elt' && mF (c.blk scope) ifs ifs'
    | _ => false)
  | .bad, _ => true
  | .sset _ a, .Call fx es' ks _ => !c.hot && (match fx, ks, es' with
    | .Name x _, [], [.Call (.Name y _) [a'] [] _] => x == ("sorted" : Str) && y == ("set" : Str) && glB (c.kd x) && glB (c.kd y) && noStar a' && mE c a a'
    | _, _, _ => false)
  | .rpr a, .Call fx es' ks _ => (match fx, ks, es' with
    | .Name x _, [], [a'] => x == ("repr" : Str) && glB (c.kd x) && noStar a' && mE c a a'
    | _, _, _ => false)
  | .repl _ es b, .BinOp a' op b' _ => (match a', op with
    | .List es' _, .Mult => mEs c es es' && mE c b b'
    | _, _ => false)
  | .dct _ ps, .Dict ks' vs' _ => mPs c ps ks' vs' && decide (ks'.length ≤ 15)
  | .dc _ kx vx tg it ifs, .DictComp kx' vx' gs scope _ => !c.hot && (match gs with
    | [⟨tg', it', ifs', 0⟩] => mI c it it' tg' && noSet it' && blkC c.N c.sc scope (ownOf c.N (tgSlots tg)) && decide ((ownOf c.N (tgSlots tg)).length = (tgSlots tg).length) &&
      mG (c.blk scope) tg tg' && mE (c.blk scope) kx kx' && mE (c.blk scope) vx vx' && mF (c.blk scope) ifs ifs'
    | _ => false)
  | .rngT es, .Call fx es' ks _ => !c.hot && (match fx, ks, es' with
    | .Name x _, [], [.Call (.Name y _) rs [] _] => x == ("tuple" : Str) && y == ("range" : Str) && glB (c.kd x) && glB (c.kd y) && mEs c es rs && !rs.isEmpty
    | _, _, _ => false)
  | .callk f es ks kes _, .Call fx es' kws _ => !c.hot && (match fx with
    | .Name x _ => f == x && glB (c.kd x) && !(x == dbg) && mEs c es es' && mKs c kes ks kws && !kws.isEmpty
    | _ => false)
  | .hcall f es, .Call fx es' ks _ => (match fx, ks with
    | .Name x _, [] => f == x && glB (c.kd x) && !(x == dbg) && mEs c es es' && !c.deep
    | _, _ => false)
  | .isx a C, .Call fx es' ks _ => (match fx, ks, es' with
    | .Name x _, [], [a', .Name y _] => x == ("isinstance" : Str) && glB (c.kd x) && glB (c.kd y) && C == y && !(y == dbg) && noStar a' && mE c a a'
    | _, _, _ => false)
  | .isxs a Cs, .Call fx es' ks _ => (match fx, ks, es' with
    | .Name x _, [], [a', .Tuple ys _ _] => x == ("isinstance" : Str) && glB (c.kd x) && mNs c Cs ys && noStar a' && mE c a a' && !Cs.isEmpty
    | _, _, _ => false)
  | .xattr o f, .Attribute o' x _ => f == x && mE c o o' && noSup o'
  | .rngL _ es, .Call fx es' ks _ => !c.hot && (match fx, ks, es' with
    | .Name x _, [], [.Call (.Name y _) rs [] _] => x == ("list" : Str) && y == ("range" : Str) && glB (c.kd x) && glB (c.kd y) && mEs c es rs && !rs.isEmpty
    | _, _, _ => false)
  | .cat _ a b, .BinOp a' op b' _ => (match op with | .Add => true | _ => false) && mE c a a' && mE c b b'
  | _, _ => false
def mFs (c : Sc) : Es → List Expr → Bool
  | .nil, [] => true
  | .cons e r, x :: xs => (match x with
    | .FormattedValue e' cv sp _ => decide (cv = -1) && sp.isNone && mE c e e'
    | x => (match e with | .const (.str _) => true | _ => false) && mE c e x) && mFs c r xs
  | _, _ => false
def mF (c : Sc) : Eo → List Expr → Bool
  | .no, [] => true
  | .yes e, [t] => mE c e t
  | _, _ => false
def mPs (c : Sc) : Ep → List (Option Expr) → List Expr → Bool
  | .nil, [], [] => true
  | .cons k v r, some x :: xs, y :: ys => mE c k x && mE c v y && mPs c r xs ys
  | _, _, _ => false
def mKs (c : Sc) : Es → List Str → List Keyword → Bool
  | .nil, [], [] => true
  | .cons e r, k :: ks, ⟨nm, x, _⟩ :: kws => nm == some k && mE c e x && mKs c r ks kws
  | _, _, _ => false
def mEs (c : Sc) : Es → List Expr → Bool
  | .nil, [] => true
  | .cons e r, x :: xs => noStar x && mE c e x && mEs c r xs
  | _, _ => false
def mO (c : Sc) : Eo → Option Expr → Bool
  | .no, none => true
  | .yes e, some x => mE c e x
  | _, _ => false
def mI (c : Sc) : It → Expr → Expr → Bool
  | .seq e, x, _ => mE c e x
  | .range es, x, _ => (match x with
    | .Call (.Name y _) es' [] _ => y == ("range" : Str) && glB (c.kd y) && mEs c es es' && !es'.isEmpty && decide (es'.length ≤ 3)
    | _ => false)
  | .enum e, x, tg => (match x, tg with
    | .Call (.Name y _) [a] [] _, .Tuple _ _ _ => y == ("enumerate" : Str) && glB (c.kd y) && noStar a && mE c e a
    | _, _ => false)
  | .zip p q, x, tg => (match x, tg with
    | .Call (.Name y _) [a, b] [] _, .Tuple _ _ _ => y == ("zip" : Str) && glB (c.kd y) && noStar a && noStar b && mE c p a && mE c q b
    | _, _ => false)
end
end G
/-! G6: what a for goes through: lists, tuples, texts, ranges; zip and enumerate of these. -/
namespace G
open PySem L2 PyProof.Rows
/-- a list, a tuple, a text -/
inductive Sr where
  | ls (a : Addr) | tp (a : Addr) | tx (x : Str)
def sgn (c : Nat) : V := .str ⟨#[c]⟩
def Sr.has (K : PySem.W.Frag) (H : Hp) : Sr → List V → Prop
  | .ls a, xs => SqL K H a xs
  | .tp a, xs => SqT K H a xs
  | .tx z, xs => xs = z.cps.toList.map sgn
def Sr.val : Sr → V
  | .ls a => .ref a
  | .tp a => .ref a
  | .tx z => .str z
def Sr.below (N : Nat) : Sr → Prop
  | .ls a => a < N
  | .tp a => a < N
  | .tx _ => True
def Sr.ext : Sr → List Addr
  | .ls a => [a]
  | .tp a => [a]
  | .tx _ => []
def Sr.itr (it : Addr) (tk : Tok) (i : Nat) (h : Heap) : Sr → Prop
  | .ls a => h.IsListIter it a i
  | .tp a => h.IsTupleIter it a i
  | .tx z => h.IsStrIter it (strIterType z) z tk i
def Sr.obj (tk : Tok) : Sr → Obj
  | .ls a => { cls := .type "list_iterator", data := .fields #[.ref a, .int 0 0] }
  | .tp a => { cls := .type "tuple_iterator", data := .fields #[.ref a, .int 0 0] }
  | .tx z => { cls := .type (strIterType z), data := .fields #[.str z tk, .int 0 0] }
section
variable {X : Cx} {pins : List (Addr × Obj)} {σ : L2.St} {H : Hp} {s : Shared}
theorem Sr.inj (I : L2.Inv X pins σ H s) {r : Sr} {xs ys : List V} (h : r.has X.K H xs) (h' : r.has X.K H ys) : xs = ys := by
  cases r with
  | ls a => exact I.list_inj h h'
  | tp a => exact I.tuple_inj h h'
  | tx z => exact Eq.trans h (Eq.symm h')
theorem Sr.lt (I : L2.Inv X pins σ H s) {r : Sr} {xs : List V} (h : r.has X.K H xs) : r.below s.heap.objs.size := by
  cases r with
  | ls a => obtain ⟨its, rv, p, _⟩ := I.list h; exact p.lt
  | tp a => obtain ⟨its, rv, p, _⟩ := I.tuple h; exact p.lt
  | tx z => trivial
theorem Sr.begins (I : L2.Inv X pins σ H s) {r : Sr} {xs : List V} {u : Value} (h : r.has X.K H xs) (ru : RelV r.val u) : ∃ (tk : Tok) (Hq : Heap → Prop), Begins u (r.obj tk) Hq ∧ Hq s.heap := by
  cases r with
  | ls a => obtain ⟨its, rv, p, _⟩ := I.list h; cases ru; exact ⟨0, _, begins_list a its.toArray, p.isList⟩
  | tp a => obtain ⟨its, rv, p, _⟩ := I.tuple h; cases ru; exact ⟨0, _, begins_tuple a its.toArray, (show s.heap.IsTuple a its.toArray from p)⟩
  | tx z => obtain ⟨t, rfl⟩ := ru; exact ⟨t, _, begins_text z t, trivial⟩
theorem Sr.itr0 {r : Sr} {it : Addr} {tk : Tok} {h : Heap} (e : h.get? it = some (r.obj tk)) : r.itr it tk 0 h := by
  cases r with
  | ls a => exact ⟨_, e, rfl, rfl⟩
  | tp a => exact ⟨_, e, rfl, rfl⟩
  | tx z => exact ⟨_, e, rfl, rfl⟩
theorem Sr.itrAt {r : Sr} {it : Addr} {tk : Tok} {i : Nat} {h h' : Heap} (k : ∀ o, h.get? it = some o → h'.get? it = some o) (st : r.itr it tk i h) : r.itr it tk i h' := by
  cases r with
  | ls a => obtain ⟨o, e, q⟩ := st; exact ⟨o, k o e, q⟩
  | tp a => obtain ⟨o, e, q⟩ := st; exact ⟨o, k o e, q⟩
  | tx z => obtain ⟨o, e, q⟩ := st; exact ⟨o, k o e, q⟩
theorem Sr.itrObj {r : Sr} {it : Addr} {tk : Tok} {i : Nat} {h : Heap} (st : r.itr it tk i h) : ∃ o, h.get? it = some o ∧ ∀ v : Option Value, o.data ≠ Data.cell v := by
  cases r with
  | ls a => obtain ⟨o, e, _, d⟩ := st; exact ⟨o, e, fun v q => by rw [d] at q; cases q⟩
  | tp a => obtain ⟨o, e, _, d⟩ := st; exact ⟨o, e, fun v q => by rw [d] at q; cases q⟩
  | tx z => obtain ⟨o, e, _, d⟩ := st; exact ⟨o, e, fun v q => by rw [d] at q; cases q⟩
/-- the library's drawing of such a thing -/
theorem Sr.draws (I : L2.Inv X pins σ H s) {A : Around} (hh : A.handled = none) {r : Sr} {xs : List V} (h : r.has X.K H xs) {it : Addr} (tk : Tok) (ne : ∀ a ∈ r.ext, a ≠ it) :
    ∃ P St, Draws X.prog X.w A it (it :: r.ext) xs.length P St ∧ (∀ i, r.itr it tk i s.heap → St i s.heap) ∧ (∀ i h', St i h' → r.itr it tk i h') ∧ (∀ i u x, P i u → xs[i]? = some x → RelV x u) := by
  cases r with
  | ls a =>
    obtain ⟨its, rv, p, _⟩ := I.list h
    have hl := rv.length
    have D := Draws.list (prog := X.prog) (w := X.w) hh it a (ne a (by simp [Sr.ext])) its.toArray
    rw [List.size_toArray, ← hl] at D
    refine ⟨_, _, D, fun i st => ⟨st, p.isList⟩, fun i h' st => st.1, fun i u x hp hx => ?_⟩
    obtain ⟨u', e, q⟩ := rv.get hx
    have : its[i]? = some u := by simpa using hp
    rw [e] at this
    cases this
    exact q
  | tp a =>
    obtain ⟨its, rv, p, _⟩ := I.tuple h
    have hl := rv.length
    have D := Draws.tuple (prog := X.prog) (w := X.w) hh it a (ne a (by simp [Sr.ext])) its.toArray
    rw [List.size_toArray, ← hl] at D
    refine ⟨_, _, D, fun i st => ⟨st, (show s.heap.IsTuple a its.toArray from p)⟩, fun i h' st => st.1, fun i u x hp hx => ?_⟩
    obtain ⟨u', e, q⟩ := rv.get hx
    have : its[i]? = some u := by simpa using hp
    rw [e] at this
    cases this
    exact q
  | tx z =>
    have D := Draws.text (prog := X.prog) (w := X.w) hh it z tk
    have hl : z.cps.size = xs.length := by rw [show xs = _ from h]; simp
    rw [hl] at D
    refine ⟨_, _, D, fun i st => st, fun i h' st => st, fun i u x ⟨c, t, hc, e⟩ hx => ?_⟩
    have h' : xs = z.cps.toList.map sgn := h
    rw [h', List.getElem?_map, Array.getElem?_toList, hc] at hx
    cases hx
    exact ⟨t, e⟩
end
theorem memW {N b : Nat} (h : b ∈ [N + 4, N + 3, N, N + 1]) : b ∈ [N + 4, N + 2, N + 3, N, N + 1] := by
  simp only [List.mem_cons, List.not_mem_nil, or_false] at h ⊢
  rcases h with h | h | h | h <;> simp [h]
theorem mem5 {N c : Nat} (h : c ∈ [N + 4, N + 2, N + 3, N, N + 1]) : c = N + 4 ∨ c = N + 2 ∨ c = N + 3 ∨ c = N ∨ c = N + 1 := by simpa using h
theorem le5 {N c : Nat} (h : c ∈ [N + 4, N + 2, N + 3, N, N + 1]) : N ≤ c := by
  rcases mem5 h with h | h | h | h | h <;> omega
/-! ### zip -/
def Jz (K : PySem.W.Frag) (r1 r2 : Sr) : L2.It :=
  ⟨fun i H => ∃ xs ys x y, r1.has K H xs ∧ r2.has K H ys ∧ xs[i]? = some x ∧ ys[i]? = some y,
   fun i H v H' => ∃ T x y, v = .ref T ∧ H T = none ∧ H' = upd H T (.tup [x, y]) ∧ (∀ xs, r1.has K H xs → xs[i]? = some x) ∧ ∀ ys, r2.has K H ys → ys[i]? = some y,
   fun i H => ∃ xs ys, r1.has K H xs ∧ r2.has K H ys ∧ i = min xs.length ys.length⟩
theorem turn_z {P : Program} {w : World} {K : PySem.W.Frag} {elts : List Expr} {kk : Nat} {tpos : Pos} {r1 r2 : Sr} {N : Nat} (b1 : r1.below N) (b2 : r2.below N) (t1 t2 : Tok) :
    Turn P w K (.Tuple elts kk tpos) (Jz K r1 r2) [N + 4, N + 2, N + 3, N, N + 1] (N + 4) (fun i h => IsZip h (N + 4) (N + 2) (N + 3) .none ∧ IsTupOf2 h (N + 2) (.ref N) (.ref (N + 1)) ∧ (∃ x y, IsTupOf2 h (N + 3) x y) ∧ r1.itr N t1 i h ∧ r2.itr (N + 1) t2 i h) := by
  have l1 : ∀ b ∈ r1.ext, b < N := by cases r1 <;> simp [Sr.ext] <;> exact b1
  have l2 : ∀ b ∈ r2.ext, b < N := by cases r2 <;> simp [Sr.ext] <;> exact b2
  refine ⟨by simp, fun i h st c hc => ?_, fun i h h' st k => ?_, ?_, ?_, fun A i s Q E st h => wpAny_pyIter_zip st.1 h⟩
  · obtain ⟨hz, hTI, ⟨x, y, hTO⟩, h1, h2⟩ := st
    rcases mem5 hc with rfl | rfl | rfl | rfl | rfl
    · exact ⟨_, hz, fun v q => nomatch q⟩
    · exact ⟨_, hTI, fun v q => nomatch q⟩
    · exact ⟨_, hTO, fun v q => nomatch q⟩
    · exact Sr.itrObj h1
    · exact Sr.itrObj h2
  · obtain ⟨hz, hTI, ⟨x, y, hTO⟩, h1, h2⟩ := st
    exact ⟨k _ (by simp) _ hz, k _ (by simp) _ hTI, ⟨x, y, k _ (by simp) _ hTO⟩, Sr.itrAt (fun o q => k N (by simp) o q) h1, Sr.itrAt (fun o q => k (N + 1) (by simp) o q) h2⟩
  · intro X hP hw hK hc i pins s σ H E I hf st hg
    subst hP hw hK
    obtain ⟨hz, hTI, hTO, h1, h2⟩ := st
    obtain ⟨xs, ys, x, y, qx, qy, ex, ey⟩ := hg
    have hh : X.A.in1.handled = none := I.ok.hd hc
    obtain ⟨P1, St1, D1, s1, f1, p1⟩ := Sr.draws I hh qx (it := N) t1 (fun a ha => Nat.ne_of_lt (l1 a ha))
    obtain ⟨P2, St2, D2, s2, f2, p2⟩ := Sr.draws I hh qy (it := N + 1) t2 (fun a ha => Nat.ne_of_lt (Nat.lt_succ_of_lt (l2 a ha)))
    have G := GoesN.zip2 (elts := elts) (x1 := kk) (pos := tpos) (zip_sep2 l1 l2) D1 D2
    have ix := (List.getElem?_eq_some_iff.mp ex).1
    have iy := (List.getElem?_eq_some_iff.mp ey).1
    refine G.goes i s _ E (Nat.lt_min.mpr ⟨ix, iy⟩) ⟨hz, hTI, hTO, s1 i h1, s2 i h2⟩ fun v h' tk hY st' hk _ => ?_
    obtain ⟨T, u1, u2, rfl, hT, q1, q2, hTup⟩ := hY
    obtain ⟨hz', hTI', hTO', st1', st2'⟩ := st'
    have new : ObjOk X.prog X.w (upd H T (.tup [x, y])) h' T (.tup [x, y]) :=
      ⟨by show 2 ≤ sizeLine; decide, [u1, u2], .cons (p1 i u1 x q1 ex) (.cons (p2 i u2 y q2 ey) .nil), hTup⟩
    have I1 := I.turnedNew (t' := tk) (ch := [N + 4, N + 2, N + 3, N, N + 1]) (h' := h') (fun b o hb q => hk b o (fun z => hb (memW z)) q) hf hT new
    have big : ∀ c ∈ [N + 4, N + 2, N + 3, N, N + 1], c < s.heap.objs.size := fun c hc' => by
      rcases mem5 hc' with rfl | rfl | rfl | rfl | rfl
      · exact Heap.lt_size hz
      · exact Heap.lt_size hTI
      · obtain ⟨_, _, e⟩ := hTO; exact Heap.lt_size e
      · obtain ⟨_, e, _⟩ := Sr.itrObj h1; exact Heap.lt_size e
      · obtain ⟨_, e, _⟩ := Sr.itrObj h2; exact Heap.lt_size e
    refine ⟨.ref T, _, I1, rfl, ⟨T, x, y, rfl, I.hok.fresh hT, rfl, fun l hl => by rw [Sr.inj I hl qx]; exact ex, fun l hl => by rw [Sr.inj I hl qy]; exact ey⟩, ⟨hz', hTI', hTO', f1 _ _ st1', f2 _ _ st2'⟩, fun c hc' => ?_⟩
    rw [upd_ne (Nat.ne_of_lt (Nat.lt_of_lt_of_le (big c hc') hT))]
    exact (hf c hc').1
  · intro X hP hw hK hc i pins s σ H E I hf st hg
    subst hP hw hK
    obtain ⟨hz, hTI, hTO, h1, h2⟩ := st
    obtain ⟨xs, ys, qx, qy, rfl⟩ := hg
    have hh : X.A.in1.handled = none := I.ok.hd hc
    obtain ⟨P1, St1, D1, s1, f1, p1⟩ := Sr.draws I hh qx (it := N) t1 (fun a ha => Nat.ne_of_lt (l1 a ha))
    obtain ⟨P2, St2, D2, s2, f2, p2⟩ := Sr.draws I hh qy (it := N + 1) t2 (fun a ha => Nat.ne_of_lt (Nat.lt_succ_of_lt (l2 a ha)))
    have G := GoesN.zip2 (elts := elts) (x1 := kk) (pos := tpos) (zip_sep2 l1 l2) D1 D2
    exact G.stops s _ E ⟨hz, hTI, hTO, s1 _ h1, s2 _ h2⟩ fun h' tk hk _ => I.turnedL (t' := tk) (ch := [N + 4, N + 2, N + 3, N, N + 1]) (fun b o hb q => hk b o (fun z => hb (memW z)) q) hf
def iZ (K : PySem.W.Frag) (ta : TA) : TI := fun σ H R => ta σ H fun vs H1 => ∃ r1 r2 xs ys, vs = [Sr.val r1, Sr.val r2] ∧ r1.has K H1 xs ∧ r2.has K H1 ys ∧ R (Jz K r1 r2) H1
theorem pi_z {X : Cx} {e e2 : Expr} {ta : TA} {p pos tpos : Pos} {elts : List Expr} {kk : Nat} (hg : Gl X "zip") (hm : X.mg "zip" = none) (ha : PA X [e, e2] ta)
    (hs : starEach [e, e2] X.env = (false, eval e X.env) :: starEach [e2] X.env) (hpl : (backTo pos (starEach [e2] X.env)).any (·.1) = false) :
    PI X (.Tuple elts kk tpos) (.Call (.Name "zip" p) [e, e2] [] pos) (iZ X.K ta) := by
  refine ⟨fun pins s σ H R I h => ?_⟩
  refine Call_ (ld_blt I hg hm PyProof.Rows.boot_zip (PyProof.Rows.callWith_type1 (thn (ha.run pos pins s σ H _ I h) ?_) hs hpl))
  rintro us s1 ⟨vs, H1, I1, rv, r1, r2, xs, ys, rfl, qx, qy, q⟩
  obtain ⟨u1, u2, rfl, ru1, ru2⟩ := vals2 rv
  obtain ⟨t1, Hq1, B1, g1⟩ := Sr.begins I1 qx ru1
  obtain ⟨t2, Hq2, B2, g2⟩ := Sr.begins I1 qy ru2
  refine zip_begins2 B1 B2 g1 g2 fun h' hz hTI hTO e1 e2' hsz hk => wpAny_pyIter_zip hz ?_
  refine ⟨s1.heap.objs.size + 4, _, _, _, H1, rfl, I1.kept (t' := s1.toks) hk, turn_z (Sr.lt I1 qx) (Sr.lt I1 qy) t1 t2, ⟨hz, hTI, ⟨_, _, hTO⟩, Sr.itr0 e1, Sr.itr0 e2'⟩, fun c hc => ?_, q⟩
  have hle : s1.heap.objs.size ≤ c := le5 hc
  exact I1.fpOk hle (I1.hok.fresh hle)
end G
/-! G7: enumerate of lists, tuples, texts; a for over any of them. -/
namespace G
open PySem L2 PyProof.Rows
open PySem.AutoSeq1 (wpAny_loadPart')
theorem meets_enum1 {v : Value} {o : Obj} {Hq : Heap → Prop} (B : Begins v o Hq) :
    Meets (Builtin.«enumerate.__new__» ⟨[.type "enumerate", v], []⟩) (fun _ R s => Hq s.heap ∧
      R (.ok (.ret (.ref (s.heap.push o).objs.size))) { s with heap := (s.heap.push o).push { cls := .type "enumerate", data := .fields #[.none, .bool false, .ref s.heap.objs.size, rawInt 0, .none, .none] } }) :=
  .of_wp fun prog w A R s hyp => by
    obtain ⟨hp, gs, dr, tk, os⟩ := s
    obtain ⟨h1, hyp⟩ := hyp
    have hsub := sub_enumerate
    have beg : ∀ {A' : Around} {E : Value → Shared → Prop} {Q : Value → Shared → Prop}, Q (.ref hp.objs.size) ⟨hp.push o, gs, dr, tk, os⟩ → wpAny (model prog w) A' (pyIter v) Q E ⟨hp, gs, dr, tk, os⟩ :=
      fun q => B.iter prog w _ _ ⟨hp, gs, dr, tk, os⟩ _ h1 q
    wp_walk using beg
    refine wpAny_stack_any fun st => wpAny_pure ?_
    split
    · rename_i c _ _ _ _ _
      cases (c == Value.type "enumerate") <;> (wp_walk using beg; exact ⟨_, rfl, hyp⟩)
    · wp_walk using beg
      exact ⟨_, rfl, hyp⟩
theorem enum_begins1 {prog : Program} {w : World} {A : Around} {E : Value → Shared → Prop} {s : Shared} {v : Value} {o : Obj} {Hq : Heap → Prop} {Q : Value → Shared → Prop} (B : Begins v o Hq) (h1 : Hq s.heap)
    (h : ∀ h', IsEnum h' (s.heap.objs.size + 1) s.heap.objs.size 0 .none → h'.get? s.heap.objs.size = some o → (∀ b o, s.heap.get? b = some o → h'.get? b = some o) → Q (.ref (s.heap.objs.size + 1)) { s with heap := h' }) :
    wpAny (model prog w) A (call (.type "enumerate") [v]) Q E s := by
  refine callType_new F.called_enumerate (by decide) (F.typeCall_enumerate_1 _) (F.newCall_enumerate_1 _) (fun obj => F.args_object_init_2 obj _) F.entry_enumerate_new (meets_enum1 B) ⟨h1, ?_⟩
  have hz : (s.heap.push o).objs.size = s.heap.objs.size + 1 := Heap.size_push ..
  have g1 : (s.heap.push o).get? s.heap.objs.size = some o := Heap.get?_push_size _ B.free
  have he : ((s.heap.push o).push { cls := .type "enumerate", data := .fields #[.none, .bool false, .ref s.heap.objs.size, rawInt 0, .none, .none] }).get? (s.heap.objs.size + 1) = some { cls := .type "enumerate", data := .fields #[.none, .bool false, .ref s.heap.objs.size, rawInt 0, .none, .none] } := by
    rw [← hz]; exact Heap.get?_push_size _ rfl
  show _ ∧ _
  rw [hz]
  exact ⟨⟨_, he, rfl⟩, h _ he (Heap.get?_push_of_some _ g1) fun b o' q => Heap.get?_push_of_some _ (Heap.get?_push_of_some _ q)⟩
/-- the items with their numbers -/
def Je (K : PySem.W.Frag) (r : Sr) : L2.It :=
  ⟨fun i H => ∃ xs x, r.has K H xs ∧ xs[i]? = some x,
   fun i H v H' => ∃ T x, v = .ref T ∧ H T = none ∧ H' = upd H T (.tup [.int i, x]) ∧ ∀ xs, r.has K H xs → xs[i]? = some x,
   fun i H => ∃ xs, r.has K H xs ∧ i = xs.length⟩
theorem mem2 {N c : Nat} (h : c ∈ [N + 1, N]) : c = N + 1 ∨ c = N := by simpa using h
theorem turn_e {P : Program} {w : World} {K : PySem.W.Frag} {elts : List Expr} {kk : Nat} {tpos : Pos} {r : Sr} {N : Nat} (b1 : r.below N) (t1 : Tok) :
    Turn P w K (.Tuple elts kk tpos) (Je K r) [N + 1, N] (N + 1) (fun i h => (∃ old, IsEnum h (N + 1) N (0 + (i : Int)) old) ∧ r.itr N t1 i h) := by
  have l1 : ∀ b ∈ r.ext, b < N := by cases r <;> simp [Sr.ext] <;> exact b1
  have nf : N + 1 ∉ N :: r.ext := fun z => by
    rcases List.mem_cons.mp z with z | z
    · exact absurd z (Nat.succ_ne_self N)
    · exact absurd (l1 _ z) (Nat.not_lt.mpr (Nat.le_succ N))
  refine ⟨by simp, fun i h st c hc => ?_, fun i h h' st k => ?_, ?_, ?_, fun A i s Q E st h => let ⟨_, e⟩ := st.1; wpAny_pyIter_enum e h⟩
  · obtain ⟨⟨old, he⟩, h1⟩ := st
    rcases mem2 hc with rfl | rfl
    · exact ⟨_, he, fun v q => nomatch q⟩
    · exact Sr.itrObj h1
  · obtain ⟨⟨old, he⟩, h1⟩ := st
    exact ⟨⟨old, k _ (by simp) _ he⟩, Sr.itrAt (fun o q => k N (by simp) o q) h1⟩
  · intro X hP hw hK hc i pins s σ H E I hf st hg
    subst hP hw hK
    obtain ⟨⟨old, he⟩, h1⟩ := st
    obtain ⟨xs, x, qx, ex⟩ := hg
    have hh : X.A.in1.handled = none := I.ok.hd hc
    obtain ⟨P1, St1, D1, s1, f1, p1⟩ := Sr.draws I hh qx (it := N) t1 (fun a ha => Nat.ne_of_lt (l1 a ha))
    have G := GoesN.enumFrom (elts := elts) (x1 := kk) (pos := tpos) 0 D1 (N + 1) (Nat.succ_ne_self N) nf (by simp)
    have ix := (List.getElem?_eq_some_iff.mp ex).1
    refine G.goes i s _ E ix ⟨⟨old, he⟩, s1 i h1⟩ fun v h' tk hY st' hk _ => ?_
    obtain ⟨T, t, u1, rfl, hT, q1, hTup⟩ := hY
    rw [Int.zero_add] at hTup
    obtain ⟨he', st1'⟩ := st'
    have new : ObjOk X.prog X.w (upd H T (.tup [.int i, x])) h' T (.tup [.int i, x]) :=
      ⟨by show 2 ≤ sizeLine; decide, [_, u1], .cons ⟨t, rfl⟩ (.cons (p1 i u1 x q1 ex) .nil), hTup⟩
    have I1 := I.turnedNew (t' := tk) (ch := [N + 1, N]) (h' := h') (fun b o hb q => hk b o hb q) hf hT new
    have big : ∀ c ∈ [N + 1, N], c < s.heap.objs.size := fun c hc' => by
      rcases mem2 hc' with rfl | rfl
      · exact Heap.lt_size he
      · obtain ⟨_, e, _⟩ := Sr.itrObj h1; exact Heap.lt_size e
    refine ⟨.ref T, _, I1, rfl, ⟨T, x, rfl, I.hok.fresh hT, rfl, fun l hl => by rw [Sr.inj I hl qx]; exact ex⟩, ⟨he', f1 _ _ st1'⟩, fun c hc' => ?_⟩
    rw [upd_ne (Nat.ne_of_lt (Nat.lt_of_lt_of_le (big c hc') hT))]
    exact (hf c hc').1
  · intro X hP hw hK hc i pins s σ H E I hf st hg
    subst hP hw hK
    obtain ⟨⟨old, he⟩, h1⟩ := st
    obtain ⟨xs, qx, rfl⟩ := hg
    have hh : X.A.in1.handled = none := I.ok.hd hc
    obtain ⟨P1, St1, D1, s1, f1, p1⟩ := Sr.draws I hh qx (it := N) t1 (fun a ha => Nat.ne_of_lt (l1 a ha))
    have G := GoesN.enumFrom (elts := elts) (x1 := kk) (pos := tpos) 0 D1 (N + 1) (Nat.succ_ne_self N) nf (by simp)
    exact G.stops s _ E ⟨⟨old, he⟩, s1 _ h1⟩ fun h' tk hk _ => I.turnedL (t' := tk) (ch := [N + 1, N]) (fun b o hb q => hk b o hb q) hf
def iE (K : PySem.W.Frag) (ta : TA) : TI := fun σ H R => ta σ H fun vs H1 => ∃ r xs, vs = [Sr.val r] ∧ r.has K H1 xs ∧ R (Je K r) H1
theorem pi_e {X : Cx} {e : Expr} {ta : TA} {p pos tpos : Pos} {elts : List Expr} {kk : Nat} (hg : Gl X "enumerate") (hm : X.mg "enumerate" = none) (ha : PA X [e] ta)
    (hs : starEach [e] X.env = (false, eval e X.env) :: starEach [] X.env) : PI X (.Tuple elts kk tpos) (.Call (.Name "enumerate" p) [e] [] pos) (iE X.K ta) := by
  refine ⟨fun pins s σ H R I h => ?_⟩
  refine Call_ (ld_blt I hg hm boot_enumerate (PyProof.Rows.callWith_type1 (thn (ha.run pos pins s σ H _ I h) ?_) hs rfl))
  rintro us s1 ⟨vs, H1, I1, rv, r, xs, rfl, qx, q⟩
  obtain ⟨u1, rfl, ru1⟩ := vals1 rv
  obtain ⟨t1, Hq1, B1, g1⟩ := Sr.begins I1 qx ru1
  refine enum_begins1 B1 g1 fun h' he e1 hk => wpAny_pyIter_enum he ?_
  refine ⟨s1.heap.objs.size + 1, _, _, _, H1, rfl, I1.kept (t' := s1.toks) hk, turn_e (Sr.lt I1 qx) t1, ⟨⟨_, he⟩, Sr.itr0 e1⟩, fun c hc => ?_, q⟩
  have hle : s1.heap.objs.size ≤ c := by
    rcases mem2 hc with h | h <;> omega
  exact I1.fpOk hle (I1.hok.fresh hle)
/-- a list, a tuple or a text itself -/
def Js (K : PySem.W.Frag) : Sr → L2.It
  | .ls a => Itl K a
  | .tp a => Itt K a
  | .tx z => Its z
def iS (K : PySem.W.Frag) (te : TE) : TI := fun σ H R => te σ H fun x H1 => ∃ r xs, x = Sr.val r ∧ r.has K H1 xs ∧ R (Js K r) H1
theorem pi_s {X : Cx} {tg e : Expr} {te : TE} (he : PE X e te) : PI X tg e (iS X.K te) := by
  refine ⟨fun pins s σ H R I h => ?_⟩
  refine thn (he.run pins s σ H _ I h) ?_
  rintro v s1 ⟨x, H1, I1, rx, r, xs, rfl, hx, q⟩
  cases r with
  | ls a =>
    cases rx
    obtain ⟨its, rv, p, _⟩ := I1.list hx
    exact wpAny_pyIter_list p.isList (pi_one (tk := s1.toks) I1 _ (turn_list a _) ⟨_, Heap.get?_push_size _ rfl, rfl, rfl⟩ q)
  | tp a =>
    cases rx
    obtain ⟨its, rv, p, _⟩ := I1.tuple hx
    exact wpAny_pyIter_tuple (show s1.heap.IsTuple a its.toArray from p) (pi_one (tk := s1.toks) I1 _ (turn_tuple a _) ⟨_, Heap.get?_push_size _ rfl, rfl, rfl⟩ q)
  | tx z =>
    obtain ⟨t, rfl⟩ := rx
    cases ha : z.cps.all (· < 128)
    · exact wpAny_pyIter_wide ha (pi_one (tk := s1.toks) I1 _ (turn_str _ z t _ (.inr rfl)) ⟨_, Heap.get?_push_size _ rfl, rfl, rfl⟩ q)
    · exact wpAny_pyIter_ascii ha (pi_one (tk := s1.toks) I1 _ (turn_str _ z t _ (.inl rfl)) ⟨_, Heap.get?_push_size _ rfl, rfl, rfl⟩ q)
end G
/-! GF: defs whose callers show nothing (no repr runs around them). -/
namespace G
open PySem PySem.Spec PyProof.Rows L2
/-- room for k calls; hot: an error may be held around -/
structure RoomB (hot : Bool) (k : Nat) (A : Around) : Prop where
  hd : hot = false → A.handled = none
  dp : A.depth + 3 * k + 5 < recursionLimit
  un : A.units + 16 * k + 200 < cLine
section
variable {hot : Bool} {k j : Nat} {A : Around}
theorem RoomB.of (r : Room k A) : RoomB hot k A := ⟨fun _ => r.hd, r.dp, r.un⟩
theorem RoomB.room (r : RoomB false k A) : Room k A := ⟨r.hd rfl, r.dp, r.un⟩
theorem RoomB.mono (r : RoomB hot k A) (h : j ≤ k) : RoomB hot j A := ⟨r.hd, by have := r.dp; omega, by have := r.un; omega⟩
theorem RoomB.deeper (r : RoomB hot (k + 1) A) (env : Env) : RoomB hot k (A.deeper env) := ⟨fun h => r.hd h, (by have h1 := r.dp; show A.depth + 1 + 3 * k + 5 < _; omega), (by have h2 := r.un; show A.units + 3 + 16 * k + 200 < _; omega)⟩
theorem RoomB.make (r : RoomB hot (k + 1) A) (C : Addr) (us : List Value) (kw : List (Str × Value)) : RoomB hot k (A.under (.builtin "type.__call__" ⟨.ref C :: us, kw⟩)) := ⟨fun h => r.hd h, (by have h1 := r.dp; rw [make_depth]; omega), (by have h2 := r.un; rw [make_units]; omega)⟩
theorem RoomB.depth (r : RoomB hot k A) : A.depth < recursionLimit := by have h1 := r.dp; omega
theorem RoomB.cast {h2 : Bool} (r : RoomB hot k A) (h : h2 = false → hot = false) : RoomB h2 k A := ⟨fun z => r.hd (h z), r.dp, r.un⟩
end
/-- a def's own context; hot: it may run while an error is held -/
def cxB (hot : Bool) (cx : CXT) (P : Program) (w : World) (K : PySem.W.Frag) (mg : Str → Option Value) (base : Heap) (N : List Str) (qual : Str) (scope : Scope) (f : Addr) (cd : Value) (A : Around) (outer : List Env) (s : Shared) (H : Hp) (E : XK) : Cx :=
  { cxOf cx P w K mg base N qual scope f cd A outer s H E with calm := !hot }
theorem inv_startB {hot : Bool} {cx : CXT} {P : Program} {w : World} {K : PySem.W.Frag} {mg : Str → Option Value} {base : Heap} {N ps : List Str} {qual : Str} {scope : Scope} {f : Addr} {cd : Value} {A : Around} {outer : List Env} {s s1 : Shared} {H : Hp} {E : XK} {us : List Value} {vs : List V}
    (fs : FnScope N ps scope) (hd : hot = false → A.handled = none) (e0 : Env0 P w K mg base A outer s H) (hl : vs.length = ps.length) (r : Vals vs us)
    (x : InCallC s s.heap.objs.size (bindL (envOfC qual scope s.heap.objs.size f cd).kindOf (ps.zip us) fun _ => none) (cellsFrom (s.heap.objs.size + 1) scope.names []) (bindC (envOfC qual scope s.heap.objs.size f cd).kindOf (ps.zip us) fun _ => none) s1) :
    L2.Inv (cxB hot cx P w K mg base N qual scope f cd A outer s H E) [] (L2.start N vs) H s1 := by
  cases hot with
  | false => exact inv_start fs (hd rfl) e0 hl r x
  | true =>
    have e1 : Env0 P w K mg base { A with handled := none } outer s H := ⟨e0.frames, e0.mod, e0.bs, e0.bsz, e0.funs, e0.frf, e0.hok, e0.bare⟩
    have I : L2.Inv (cxOf cx P w K mg base N qual scope f cd { A with handled := none } outer s H E) [] (L2.start N vs) H s1 := inv_start fs (A := { A with handled := none }) rfl e1 hl r x
    exact ⟨⟨I.ok.mod, I.ok.kind, I.ok.glob, I.ok.blt, I.ok.above, I.ok.inj, I.ok.has, I.ok.cab, (fun z => by cases z), Around.frames_deeper e0.frames, I.ok.stk, I.ok.exf, I.ok.bs, I.ok.bsz, I.ok.noex, I.ok.exfs, I.ok.funs, I.ok.frf⟩, I.os, I.bare, I.base, I.loc, I.cell, I.free, I.freeC, I.pin, I.hok, I.len⟩
/-- what a call may let out, at these slots -/
def PassesS (cx : CXT) (X : Cx) (σ : L2.St) (E : XK) : Prop := ∀ (pins : List (Addr × Obj)) (H : Hp) (s : Shared) (e : Value) (s' : Shared), L2.Inv X pins σ H s → cx X.stack H s E e s' → X.xe e s'
/-- the error that is held, if any, is one of the tracked things -/
def HotS (A : Around) (H : Hp) : Prop := A.handled = none ∨ ∃ a c d, A.handled = some (.ref a) ∧ H a = some (exT a c d)
/-- a def keeps its promise wherever nothing is being shown around -/
structure FnG (hot : Bool) (P : Program) (w : World) (K : PySem.W.Frag) (mg : Str → Option Value) (base : Heap) (cx : CXT) (k : Nat) (f : Addr) (fd : FuncData) (ps : List Str) (sp : Sp) : Prop where
  many : ∀ vs H Q E, sp vs H Q E → vs.length = ps.length
  goes : ∀ (A : Around) (outer : List Env) (s : Shared) (H : Hp) (args : Args) (us : List Value) (vs : List V) (Q : VK) (E : XK), A.guards = some [] → RoomB hot k A → (hot = true → HotS A H) → Env0 P w K mg base A outer s H →
    BindsTo s fd args (ps.zip us) → Vals vs us → sp vs H Q E → codeAny (model P w) A (.call (.ref f) args) (CR cx outer P w H s Q E) s
section
variable {hot : Bool} {P : Program} {w : World} {K : PySem.W.Frag} {mg : Str → Option Value} {base : Heap} {cx : CXT} {k j : Nat} {f : Addr} {fd : FuncData} {ps : List Str} {sp sp' : Sp}
theorem FnG.up (F : FnG hot P w K mg base cx j f fd ps sp) (h : j ≤ k) : FnG hot P w K mg base cx k f fd ps sp := ⟨F.many, fun A o s H as us vs Q E hg hr hs => F.goes A o s H as us vs Q E hg (hr.mono h) hs⟩
theorem FnG.weak (F : FnG hot P w K mg base cx k f fd ps sp) (h : ∀ vs H Q E, sp' vs H Q E → sp vs H Q E) : FnG hot P w K mg base cx k f fd ps sp' :=
  ⟨fun vs H Q E q => F.many vs H Q E (h vs H Q E q), fun A o s H as us vs Q E hg hr hs he hb hv q => F.goes A o s H as us vs Q E hg hr hs he hb hv (h vs H Q E q)⟩
end
section
variable {hot : Bool} {X : Cx} {cx : CXT} {k : Nat} {f C : Addr} {fd : FuncData} {ps : List Str} {sp : Sp} {E : XK} {pins : List (Addr × Obj)} {σ : L2.St} {H : Hp} {s : Shared} {Q : VK}
/-- a def is called -/
theorem run_g {args : Args} {us : List Value} {vs : List V} (F : FnG hot X.prog X.w X.K X.mg X.base cx k f fd ps sp) (gs : X.A.guards = some []) (hr : RoomB hot k X.A) (hs : hot = true → HotS X.A H) (bt : BindsTo s fd args (ps.zip us)) (hx : PassesS cx X σ E) (I : L2.Inv X pins σ H s) (rv : Vals vs us) (q : sp vs H Q E) :
    wpAny (model X.prog X.w) X.A (call (.ref f) args.pos args.kw) (EP X pins σ Q) X.xe s := by
  have z := F.goes X.A X.stack s H args us vs Q E gs hr hs I.env0 bt rv q
  refine wpAny_call (codeAny_mono z fun o s' ho => ?_)
  match o, ho with
  | .error e, ho => exact hx pins H s e s' I ho
  | .ok (.ret u), ho => exact I.after ho
  | .ok .next, ho => exact (show False from ho).elim
  | .ok .brk, ho => exact (show False from ho).elim
  | .ok .cont, ho => exact (show False from ho).elim
theorem under_g {A : Around} {us : List Value} {kw : List (Str × Value)} (h : A.guards = some []) : (A.under (.builtin "type.__call__" ⟨.ref C :: us, kw⟩)).guards = some [] := by
  show pushGuards (Code.builtin "type.__call__" ⟨.ref C :: us, kw⟩).guards A.guards = some []
  rw [h]
  rfl
/-- a class is called -/
theorem make_g {us ds : List Value} {vs dvs : List V} (M : Mk X.K C f) (F : FnG hot X.prog X.w X.K X.mg X.base cx k f fd ps sp) (gs : X.A.guards = some []) (hr : RoomB hot (k + 1) X.A) (hz : hot = false) (hb : Binds X.K fd ps ds) (hd : Vals dvs ds) (hx : PassesS cx X σ E) (I : L2.Inv X pins σ H s) (rv : Vals vs us)
    (q : ∀ x dx, H x = none → H dx = none → dx ≠ x → sp (.ref x :: (vs ++ dvs)) (upd (upd H dx (.own x)) x (.ins C dx [])) (fun v H2 => v = .non ∧ Q (.ref x) H2) E) :
    wpAny (model X.prog X.w) X.A (call (.ref C) us) (EP X pins σ Q) X.xe s := by
  let n := s.heap.objs.size
  have q1 := q (n + 1) n (I.hok.fresh (Nat.le_succ _)) (I.hok.fresh (Nat.le_refl _)) (Nat.ne_of_lt (Nat.lt_succ_self _))
  have J := Inv.made (C := C) I
  have rr : Vals (V.ref (n + 1) :: (vs ++ dvs)) (Value.ref (n + 1) :: (us ++ ds)) := .cons rfl (rv.append hd)
  have hl : (Value.ref (n + 1) :: us ++ ds).length = ps.length := rr.length.symm.trans (F.many _ _ _ _ q1)
  have z := F.goes _ X.stack _ _ ⟨Value.ref (n + 1) :: us, []⟩ (Value.ref (n + 1) :: (us ++ ds)) _ _ E (under_g gs) (hr.make C us []) (fun z => by rw [hz] at z; cases z) (J.env0.make C us []) (hb _ (Value.ref (n + 1) :: us) J.kIn hl) rr q1
  refine wpAny_call (make_map (f := f) I.kIn M.makes M.init (beq_iff_eq.mp M.fn) (codeAny_mono z fun o s' ho => ?_))
  match o, ho with
  | .error e, ho => exact hx pins _ _ e s' J ho
  | .ok (.ret u), ho =>
    obtain ⟨v, H', J2, r2, e2, q2⟩ := J.after ho
    subst e2
    exact ⟨r2, V.ref (n + 1), H', J2, rfl, q2⟩
  | .ok .next, ho => exact (show False from ho).elim
  | .ok .brk, ho => exact (show False from ho).elim
  | .ok .cont, ho => exact (show False from ho).elim
end
/-- a def by its body -/
theorem fn_g {hot : Bool} {cx : CXT} {P : Program} {w : World} {K : PySem.W.Frag} {mg : Str → Option Value} {base : Heap} {k : Nat} {f : Addr} {nm qual : Str} {pa : Arguments} {bd : List Stmt} {sc : Scope} {dV kV doc pm cdv ct oc : Value} {an od : Option Addr} {osl : Array (Option Value)} {N ps : List Str} {sp : Sp}
    (lk : K.lookup f = some ⟨oc, od, .func (PySem.W.fnOf nm qual pa bd sc dV kV doc pm an cdv ct), osl⟩) (hc : PySem.W.codeIn K cdv qual = true) (fs : FnScope N ps sc) (many : ∀ vs H Q E, sp vs H Q E → vs.length = ps.length)
    (hb : ∀ (A : Around) (outer : List Env) (s : Shared) (H : Hp) (vs : List V) (Q : VK) (E : XK), A.guards = some [] → RoomB hot k (A.deeper (envOfC qual sc s.heap.objs.size f cdv)) → (hot = true → HotS A H) → sp vs H Q E →
      ∃ t, PSs (cxB hot cx P w K mg base N qual sc f cdv A outer s H E) bd t ∧ t { nx := fun _ H' => Q .non H', rt := Q } (L2.start N vs) H) :
    FnG hot P w K mg base cx (k + 1) f (PySem.W.fnOf nm qual pa bd sc dV kV doc pm an cdv ct) ps sp := by
  refine ⟨many, fun A outer s H args us vs Q E hgd hr hs e0 bt rv q => ?_⟩
  have kin : K.In s.heap := e0.mod.kin.keeps fun b o e => (e0.bs b o e).1
  have nol : s.heap.NoLimit := e0.mod.nolimit.keeps fun b o e => (e0.bs b o e).1
  refine codeAny_call_function hr.depth (kin _ _ lk) rfl fs.co fs.gen rfl (PySem.W.codeRec_of kin hc) (bt _ _ _ _ ?_)
  refine wpAny_newFunctionEnv_cells fs.kind (fun y hy => ?_) fun env he s1 x => ?_
  · rcases fs.par y.1 (List.of_mem_zip (a := y.1) (b := y.2) hy).1 with z | z
    · exact .inl z
    · exact .inr ⟨z, PySem.W.cellsFrom_some _ _ _ (.inl z)⟩
  subst he
  refine ⟨nol.keeps x.toInCall.keep, codeAny_func ?_⟩
  obtain ⟨t, ht, hq⟩ := hb A outer s H vs Q E hgd (hr.deeper _) hs q
  have I : L2.Inv (cxB hot cx P w K mg base N qual sc f cdv A outer s H E) [] (L2.start N vs) H s1 := inv_startB fs hr.hd e0 (many _ _ _ _ q) rv x
  refine wpAny_mono (ht.run [] s1 (L2.start N vs) H _ I hq) (fun fl s' ho => ?_) fun e s' ho => ho
  match fl, ho with
  | .ret u, ho =>
    obtain ⟨v, σ', H', J, r', q'⟩ := ho
    exact ⟨v, H', J.os, J.bare, J.base, J.hok, r', q'⟩
  | .next, ho =>
    obtain ⟨σ', H', J, q'⟩ := ho
    exact ⟨V.non, H', J.os, J.bare, J.base, J.hok, rfl, q'⟩
  | .brk, ho => obtain ⟨_, _, _, z⟩ := ho; exact z.elim
  | .cont, ho => obtain ⟨_, _, _, z⟩ := ho; exact z.elim
end G
/-! GR0: a __repr__ that is one f-string of its own fields, whatever is being shown or held around. -/
namespace G
open PySem PySem.Spec PyProof.Rows L2
def rpV (K : PySem.W.Frag) (H : Hp) (gs : List (Str × V)) : Rpt → List Nat → Prop
  | .txt s, z => z = s
  | .fld f, z => ∃ i : Int, gs.lookup f = some (.int i) ∧ i.natAbs.log2 < 1920 ∧ z = digits i
  | .len f, z => ∃ p vs, gs.lookup f = some (.ref p) ∧ (SqL K H p vs ∨ SqT K H p vs) ∧ ((vs.length : Int)).natAbs.log2 < 1920 ∧ z = digits (vs.length : Int)
def rpsV (K : PySem.W.Frag) (H : Hp) (gs : List (Str × V)) : List Rpt → List Nat → Prop
  | [], z => z = []
  | p :: r, z => ∃ a b, z = a ++ b ∧ rpV K H gs p a ∧ rpsV K H gs r b
/-- what it promises -/
def spRp (K : PySem.W.Frag) (mg : Str → Option Value) (C : Str) (ps : List Rpt) : Sp := fun vs H Q _ => ∃ (a c dx : Addr) (gs : List (Str × V)) (z : List Nat), vs = [.ref a] ∧ mg C = some (.ref c) ∧ H a = some (.ins c dx gs) ∧ rpsV K H gs ps z ∧ z.length ≤ lim ∧ Q (.str (mkS z)) H
/-- a def keeps its promise, whatever is being shown around -/
structure FnQ (P : Program) (w : World) (K : PySem.W.Frag) (mg : Str → Option Value) (base : Heap) (cx : CXT) (f : Addr) (fd : FuncData) (ps : List Str) (sp : Sp) : Prop where
  many : ∀ vs H Q E, sp vs H Q E → vs.length = ps.length
  goes : ∀ (A : Around) (outer : List Env) (s : Shared) (H : Hp) (args : Args) (us : List Value) (vs : List V) (Q : VK) (E : XK), A.depth < recursionLimit → Env0 P w K mg base A outer s H →
    BindsTo s fd args (ps.zip us) → Vals vs us → sp vs H Q E → codeAny (model P w) A (.call (.ref f) args) (CR cx outer P w H s Q E) s
theorem fn_q {cx : CXT} {P : Program} {w : World} {K : PySem.W.Frag} {mg : Str → Option Value} {base : Heap} {f : Addr} {nm qual : Str} {pa : Arguments} {bd : List Stmt} {sc : Scope} {dV kV doc pm cdv ct oc : Value} {an od : Option Addr} {osl : Array (Option Value)} {N ps : List Str} {sp : Sp}
    (lk : K.lookup f = some ⟨oc, od, .func (PySem.W.fnOf nm qual pa bd sc dV kV doc pm an cdv ct), osl⟩) (hc : PySem.W.codeIn K cdv qual = true) (fs : FnScope N ps sc) (many : ∀ vs H Q E, sp vs H Q E → vs.length = ps.length)
    (hb : ∀ (A : Around) (outer : List Env) (s : Shared) (H : Hp) (vs : List V) (Q : VK) (E : XK), sp vs H Q E →
      ∃ t, PSs (cxB true cx P w K mg base N qual sc f cdv A outer s H E) bd t ∧ t { nx := fun _ H' => Q .non H', rt := Q } (L2.start N vs) H) :
    FnQ P w K mg base cx f (PySem.W.fnOf nm qual pa bd sc dV kV doc pm an cdv ct) ps sp := by
  refine ⟨many, fun A outer s H args us vs Q E hr e0 bt rv q => ?_⟩
  have kin : K.In s.heap := e0.mod.kin.keeps fun b o e => (e0.bs b o e).1
  have nol : s.heap.NoLimit := e0.mod.nolimit.keeps fun b o e => (e0.bs b o e).1
  refine codeAny_call_function hr (kin _ _ lk) rfl fs.co fs.gen rfl (PySem.W.codeRec_of kin hc) (bt _ _ _ _ ?_)
  refine wpAny_newFunctionEnv_cells fs.kind (fun y hy => ?_) fun env he s1 x => ?_
  · rcases fs.par y.1 (List.of_mem_zip (a := y.1) (b := y.2) hy).1 with z | z
    · exact .inl z
    · exact .inr ⟨z, PySem.W.cellsFrom_some _ _ _ (.inl z)⟩
  subst he
  refine ⟨nol.keeps x.toInCall.keep, codeAny_func ?_⟩
  obtain ⟨t, ht, hq⟩ := hb A outer s H vs Q E q
  have I : L2.Inv (cxB true cx P w K mg base N qual sc f cdv A outer s H E) [] (L2.start N vs) H s1 := inv_startB fs (fun z => by cases z) e0 (many _ _ _ _ q) rv x
  refine wpAny_mono (ht.run [] s1 (L2.start N vs) H _ I hq) (fun fl s' ho => ?_) fun e s' ho => ho
  match fl, ho with
  | .ret u, ho =>
    obtain ⟨v, σ', H', J, r', q'⟩ := ho
    exact ⟨v, H', J.os, J.bare, J.base, J.hok, r', q'⟩
  | .next, ho =>
    obtain ⟨σ', H', J, q'⟩ := ho
    exact ⟨V.non, H', J.os, J.bare, J.base, J.hok, rfl, q'⟩
  | .brk, ho => obtain ⟨_, _, _, z⟩ := ho; exact z.elim
  | .cont, ho => obtain ⟨_, _, _, z⟩ := ho; exact z.elim
/-! ### its body -/
def rpFs : List Rpt → List Str
  | [] => []
  | .txt _ :: r => rpFs r
  | .fld f :: r => f :: rpFs r
  | .len f :: r => f :: rpFs r
def rpB2 (self : Str) : Expr → Rpt → Bool
  | .Attribute (.Name y _) g _, .fld f => y == self && g == f
  | .Call (.Name l _) [.Attribute (.Name y _) g _] [] _, .len f => l == ("len" : Str) && y == self && g == f
  | _, _ => false
def rpB1 (self : Str) : Expr → Rpt → Bool
  | .Constant (.str x) _ _, .txt s => decide (mkS s = x) && s.all fun c => decide (c < 0x110000)
  | .FormattedValue e cv sp _, p => decide (cv = -1) && sp.isNone && rpB2 self e p
  | _, _ => false
def rpB (self : Str) : List Expr → List Rpt → Bool
  | [], [] => true
  | e :: es, p :: ps => rpB1 self e p && rpB self es ps
  | _, _ => false
section
variable {X : Cx} {self : Str}
theorem ba2 {a b : Bool} (h : (a && b) = true) : a = true ∧ b = true := by rwa [Bool.and_eq_true] at h
theorem rp_one (hN : X.N[0]? = some self) (hv : Vis X.env.scope self) (hd : (self == ("__debug__" : Str)) = false) (hcd : (self == ("__classdict__" : Str)) = false) (hsu : (self == ("super" : Str)) = false) (hl : Gl X "len") (hm : X.mg ("len" : Str) = none) {e : Expr} {p : Rpt} (h : rpB1 self e p = true) :
    ∃ t, PE X e t ∧ ∀ σ H (Q : VK) (a c dx : Addr) gs z, σ[0]? = some (some (.ref a)) → H a = some (.ins c dx gs) → (∀ f ∈ rpFs [p], NoAttr X.K c f) → Cls X.K c → rpV X.K H gs p z → z.length ≤ lim → Q (.str (mkS z)) H → t σ H Q := by
  have fl : ∀ (f : Str) (p1 p2 : Pos), PE X (.Attribute (.Name self p1) f p2) (tFld X.K (tVar 0) f) := fun f p1 p2 => pe_fld (pe_var hN hv hd hcd) (by
    unfold attributeBase
    split
    · rename_i q
      simp_all
    · rfl)
  cases e with
  | Constant k j pos =>
    cases p with
    | txt s =>
      cases k with
      | str x =>
        obtain ⟨h1, h2⟩ := ba2 (show (decide (mkS s = x) && s.all fun c => decide (c < 0x110000)) = true from h)
        have h1 := of_decide_eq_true h1
        subst h1
        refine ⟨_, pe_str, fun σ H Q a c dx gs z _ _ _ _ hz _ q => ?_⟩
        have hz : z = s := hz
        subst hz
        exact q
      | _ => cases h
    | _ => cases k <;> cases h
  | FormattedValue e cv sp pos =>
    obtain ⟨h, h3⟩ := ba2 (show (decide (cv = -1) && sp.isNone && rpB2 self e p) = true from h)
    obtain ⟨h1, h2⟩ := ba2 h
    have h1 := of_decide_eq_true h1
    subst h1
    cases sp with
    | some _ => cases h2
    | none =>
      unfold rpB2 at h3
      split at h3
      · obtain ⟨h4, h5⟩ := ba2 h3
        rw [beq_iff_eq] at h4 h5
        subst h4 h5
        refine ⟨_, pe_fmt (fl _ _ _), fun σ H Q a c dx gs z e1 e2 hf hc hz hlz q => ?_⟩
        obtain ⟨i, hi, hl2, rfl⟩ := hz
        refine ⟨.ref a, e1, a, c, dx, gs, .int i, rfl, e2, hc, hf _ (by simp [rpFs]), hi, .inr ⟨i, rfl, hl2, ?_⟩⟩
        rw [ofString_digits]
        exact q
      · obtain ⟨h4, h5⟩ := ba2 h3
        obtain ⟨h6, h4⟩ := ba2 h4
        rw [beq_iff_eq] at h4 h5 h6
        subst h4 h5 h6
        refine ⟨_, pe_fmt (pe_callB call_len_seq hl hm (by rfl) (pa_cons (fl _ _ _) pa_nil rfl) (by decide) (by decide) rfl rfl), fun σ H Q a c dx gs z e1 e2 hf hc hz hlz q => ?_⟩
        obtain ⟨p, vs, hi, sq, hl2, rfl⟩ := hz
        refine ⟨.ref a, e1, a, c, dx, gs, .ref p, rfl, e2, hc, hf _ (by simp [rpFs]), hi, ?_⟩
        refine ⟨p, vs, rfl, sq, .inr ⟨_, rfl, hl2, ?_⟩⟩
        rw [ofString_digits]
        exact q
      · cases h3
  | _ => cases p <;> cases h
theorem rp_all (hN : X.N[0]? = some self) (hv : Vis X.env.scope self) (hd : (self == ("__debug__" : Str)) = false) (hcd : (self == ("__classdict__" : Str)) = false) (hsu : (self == ("super" : Str)) = false) (hl : Gl X "len") (hm : X.mg ("len" : Str) = none) : ∀ {es : List Expr} {ps : List Rpt}, rpB self es ps = true →
    ∃ ts, PJ X es ts ∧ ∀ σ H (Q : Str → Hp → Prop) (a c dx : Addr) gs z (acc : List Nat), σ[0]? = some (some (.ref a)) → H a = some (.ins c dx gs) → (∀ f ∈ rpFs ps, NoAttr X.K c f) → Cls X.K c → rpsV X.K H gs ps z → acc.length + z.length ≤ lim → Q (mkS (acc ++ z)) H → tJs ts (mkS acc) σ H Q
  | [], [], _ => ⟨[], .nil, fun σ H Q a c dx gs z acc _ _ _ _ hz _ q => by
    have hz : z = [] := hz
    subst hz
    rw [List.append_nil] at q
    exact q⟩
  | e :: es, p :: ps, h => by
    obtain ⟨h1, h2⟩ := ba2 (show (rpB1 self e p && rpB self es ps) = true from h)
    obtain ⟨t, pt, k1⟩ := rp_one hN hv hd hcd hsu hl hm h1
    obtain ⟨ts, pj, k2⟩ := rp_all hN hv hd hcd hsu hl hm h2
    refine ⟨t :: ts, .cons pt pj, fun σ H Q a c dx gs z acc e1 e2 hf hc hz hlz q => ?_⟩
    obtain ⟨z1, z2, rfl, hz1, hz2⟩ := hz
    rw [List.length_append] at hlz
    have f1 : ∀ f ∈ rpFs [p], NoAttr X.K c f := fun f hff => hf f (by cases p <;> simp_all [rpFs])
    have f2 : ∀ f ∈ rpFs ps, NoAttr X.K c f := fun f hff => hf f (by cases p <;> simp_all [rpFs])
    refine k1 σ H _ a c dx gs z1 e1 e2 f1 hc hz1 (by omega) ⟨mkS z1, rfl, ?_, ?_⟩
    · rw [mkS_append, mkS_len, List.length_append]; exact lim_size (by omega)
    · rw [mkS_append]
      exact k2 σ H Q a c dx gs z2 (acc ++ z1) e1 e2 f2 hc hz2 (by rw [List.length_append]; omega) (by rw [List.append_assoc]; exact q)
  | [], _ :: _, h => by cases h
  | _ :: _, [], h => by cases h
end
/-- a class tells itself so -/
def RpOk (K : PySem.W.Frag) (mg : Str → Option Value) (P : Program) (w : World) (base : Heap) (C : Str) (ps : List Rpt) : Prop :=
  ∃ (c a : Addr) (fd : FuncData) (self : Str), mg C = some (.ref c) ∧ Meth K c "__repr__" a ∧ FnQ P w K mg base (L2N.CX P w) a fd [self] (spRp K mg C ps) ∧ Binds K fd [self] []
end G
/-! GE: exceptions of own classes under any built-in base: made, filled, asked. -/
namespace G
open PySem PySem.Spec PyProof.Rows L2
/-- the class at C, under the built-in B -/
structure OxC (K : PySem.W.Frag) (C : Addr) (B newId initId : String) (tl : List Value) : Prop where
  F : ExcBaseFacts B newId initId tl
  cls : ∃ nm q N bs bm sn sub ab col dd k0 k1 k2 k3 k5, K.lookup C = some (excClassObj nm q C N bs bm true sn sub ab col dd k0 k1 k2 k3 k5 newId) ∧ PySem.W.excTail tl bm = true
  pas : ∀ self : Value, refuseLoop self "__setattr__" tl = pure ()
  obj : tl.contains (.type "object") = true
  sa : PySem.W.findIn K (.ref C) "__setattr__" = some (some (.builtin "object.__setattr__"))
  exC : PySem.W.subIn K (.ref C) (.type "BaseException") = some true
  tyC : PySem.W.typeIn K (.ref C) = some (.type "type")
  kC : PySem.W.keepIn K (.ref C) = true
theorem oxB_ok {K : PySem.W.Frag} {C : Addr} {tl : List Value} {newId : String} (q : oxB K C tl newId = true) :
    ∃ nm qn N bs bm sn sub ab col dd k0 k1 k2 k3 k5, K.lookup C = some (excClassObj nm qn C N bs bm true sn sub ab col dd k0 k1 k2 k3 k5 newId) ∧ PySem.W.excTail tl bm = true := by
  unfold oxB at q
  split at q
  · rename_i dd cd sl ho
    split at q
    · rename_i C' bm k0 k1 k2 k3 n k5 hm hs
      simp only [Bool.and_eq_true, beq_iff_eq, Bool.not_eq_true'] at q
      obtain ⟨⟨⟨⟨rfl, rfl⟩, h1⟩, h2⟩, ht⟩ := q
      obtain ⟨nm, bs, mro, ns, qn, hd, sn, sub, ab, col, del⟩ := cd
      dsimp only at hm h1 h2
      subst hm h1 h2
      have e : sl = #[k0, k1, k2, k3, some (.builtin n), k5] := by
        obtain ⟨l⟩ := sl
        exact congrArg Array.mk hs
      subst e
      exact ⟨nm, qn, ns, bs, bm, sn, sub, ab, col, dd, k0, k1, k2, k3, k5, ho, ht⟩
    · cases q
  · cases q
/-- a field of an exception that has no dict yet -/
theorem osa_x {prog : Program} {w : World} {A : Around} {R : Result → Shared → Prop} {hp : Heap} {gs : Array GenState} {dr : Drawn} {t : Nat} {os : OsState} {K : PySem.W.Frag} {name : Str} {tk : Tok} {v : Value} {x C : Addr} {fv : Array Value} {cd : ClassData}
    (kin : K.In hp) (hx : hp.get? x = some { cls := .ref C, data := .fields fv }) (hcd : PySem.W.clsIn K C = some cd) (hps : ∀ self : Value, refuseLoop self "__setattr__" cd.mro = pure ()) (hne : cd.mro.isEmpty = false) (hob : cd.mro.contains (.type "object") = true) (hh : cd.hasDict = true) (ha : PySem.W.findIn K (.ref C) name = some none)
    (hq : ∀ h' tk' dx, (∀ b o, b ≠ x → hp.get? b = some o → h'.get? b = some o) → hp.objs.size ≤ dx → dx ≠ x → h'.get? x = some { cls := .ref C, dict := some dx, data := .fields fv } → h'.Ns1 dx (fun y => if y = name then some v else none) → R (.ok (.ret .none)) ⟨h', gs, dr, tk', os⟩) :
    codeAny (model prog w) A (.call (.builtin "object.__setattr__") ⟨[.ref x, .str name tk, v], []⟩) R ⟨hp, gs, dr, t, os⟩ := by
  have J : PySem.W.InstAt hp x { cls := .ref C, data := .fields fv } C none := ⟨hx, rfl, rfl, trivial⟩
  have so := PySem.F.store_object
  have xn : x ≠ hp.objs.size := Nat.ne_of_lt (Heap.lt_size hx)
  have io : PySem.W.Looks (model prog w) hp (isInstance (.ref x) (.type "object")) true := J.type.andThen (PySem.W.looks_mroIn kin (by unfold PySem.W.mroIn; rw [hcd, Option.bind_some, if_neg (by rw [hne]; decide), hob]))
  refine codeAny_call_builtin so.slot.plain so.entry (@PySem.W.check_slot (model prog w) _ _ ⟨hp, gs, dr, t, os⟩ "object.__setattr__" "object" "__setattr__" (.ref x) [.str name tk, v] [] _ so.kind so.split io (so.args (.ref x) (.str name tk) v) ?_)
  have mr : PySem.W.Looks (model prog w) hp (mroOf (.ref C)) cd.mro := (PySem.W.looks_clsIn kin hcd).andThen .now
  have nt : PySem.W.Looks (model prog w) hp (Builtin.ObjectAttr.storeTaker? none) none := .now
  have lc : PySem.W.Looks (model prog w) hp (classData C) cd := PySem.W.looks_clsIn kin hcd
  rw [PySem.W.osa_eq, refuse_eq]
  refine wpAny_bind (wpAny_bind (J.type.at (wpAny_bind (mr.at ?_))))
  rw [hps]
  refine wpAny_pure (wpAny_bind (J.type.at (wpAny_bind ((PySem.W.looks_findIn kin ha).at (wpAny_bind (nt.at ?_))))))
  show wpAny _ _ (Builtin.ObjectAttr.storeInOwnDict (.ref x) (.ref C) (.str name tk) name v false) _ _ _
  obtain ⟨nm, bs, mro, ns, qn, hd, sn, sb, ab, col, del⟩ := cd
  dsimp only at hh
  subst hh
  unfold Builtin.ObjectAttr.storeInOwnDict Builtin.ObjectAttr.ownDictForStores
  repeat (first | with_reducible refine PySem.HandSPX.store_in_new ?_ ?_ | with_reducible refine wpAny_loadPart_at hx ?_ | with_reducible refine lc.at ?_ | wp_step)
  · exact ⟨_, #[], _, (Heap.get?_update_ne _ _ _ _ xn.symm).trans (Heap.get?_push_at rfl rfl), rfl, (fun e he => absurd he (by simp)), fun _ => rfl⟩
  · intro h' tk' hn' hs
    have x1 : (hp.push { cls := .type "dict", data := .dict #[] }).get? x = some { cls := .ref C, data := .fields fv } := Heap.get?_push_of_some _ hx
    exact hq h' tk' hp.objs.size (fun b o hb ho => (hs.2 b (Nat.ne_of_lt (Heap.lt_size ho))).trans ((Heap.get?_update_ne _ _ _ _ hb).trans (Heap.get?_push_of_some _ ho))) (Nat.le_refl _) xn.symm ((hs.2 x xn).trans (Heap.get?_update_self _ x1 rfl)) hn'
section
variable {X : Cx} {pins : List (Addr × Obj)} {σ : L2.St} {H : Hp} {s : Shared} {a C dx : Addr} {f : Str} {y : V} {u : Value} {E : Value → Shared → Prop} {A : Around} {B newId initId : String} {tl : List Value}
/-- self.f = y -/
theorem ox_store {Q : Unit → Shared → Prop} (O : OxC X.K C B newId initId tl) (I : L2.Inv X pins σ H s) (e : H a = some (exo a C none)) (hno : PySem.W.findIn X.K (.ref C) f = some none) (ry : RelV y u)
    (h : ∀ dx s', H dx = none → dx ≠ a → L2.Inv X pins σ (upd (upd H dx (exd dx [(f, y)])) a (exo a C (some dx))) s' → Q () s') : wpAny (model X.prog X.w) A (setAttr (.ref a) f u) Q E s := by
  obtain ⟨nm, q, N, bs, bm, sn, sub, ab, col, dd, k0, k1, k2, k3, k5, hC, hbm⟩ := O.cls
  have cl : PySem.W.clsIn X.K C = some { name := nm, bases := bs, mro := .ref C :: bm, ns := N, qualname := q, hasDict := true, slotNames := sn, subclasses := sub, abstract := ab, collection := col, hasDel := false } := by unfold PySem.W.clsIn; rw [hC] <;> rfl
  obtain ⟨t1, ho⟩ := exo_at I.hok e
  obtain ⟨hp, gs, dr, t, os⟩ := s
  refine PySem.W.set_plain I.kIn (ox := { cls := .ref C, dict := none, data := .fields #[.ref t1, .none, .none, .none, .bool false, .none] }) (od := none) ⟨ho, rfl, rfl, trivial⟩ O.sa ?_
  refine osa_x I.kIn ho cl (fun self => by rw [refuseLoop_ref]; exact PySem.W.excTail_pass self (O.pas self) bm hbm) rfl (by rw [List.contains_cons, PySem.W.excTail_contains "object" bm hbm, O.obj, Bool.or_true]) rfl hno fun h' tk' dx k dn dne hx hn => ?_
  have hnd : H dx = none := I.hok.fresh dn
  have nd : ∀ {b : Addr} {o : Obj}, hp.get? b = some o → b ≠ dx := fun {b o} z => Nat.ne_of_lt (Nat.lt_of_lt_of_le (Heap.lt_size z) dn)
  have na : ∀ {b : Addr}, H b = none → b ≠ a := fun {b} n z => by
    rw [z, e] at n
    cases n
  have U : Un X.fs [] H (upd (upd H dx (exd dx [(f, y)])) a (exo a C (some dx))) hp h' := {
    keep := fun b o z n _ _ => k b o (na n) z
    slot := fun b o z n _ _ => ⟨o.slots, k b o (na n) z⟩
    free := fun b o z n _ => by rw [upd_ne (na n), upd_ne (nd z)]; exact n
    there := fun b o z _ => by
      by_cases hb : b = a
      · exact ⟨_, by rw [hb]; exact hx⟩
      · exact ⟨o, k b o hb z⟩
    tups := fun b xs z => by rw [upd_ne (at_ne e z exo_tup), upd_ne (ne_of_none z hnd)]; exact z
    frzs := fun b o v z => by rw [upd_ne (at_ne e z exo_frz), upd_ne (ne_of_none z hnd)]; exact z
    tbls := fun b ps z => ⟨#[], by rw [upd_ne (at_ne e z exo_tbl), upd_ne (ne_of_none z hnd), z]; simp⟩ }
  refine h dx _ hnd dne (I.un (t' := tk') U fun b o z => ?_)
  by_cases hb : b = a
  · subst hb
    rw [upd_same] at z
    cases z
    exact exo_ok hx
  · rw [upd_ne hb] at z
    by_cases hd : b = dx
    · subst hd
      rw [upd_same] at z
      cases z
      exact exd_ok hn (relO_put (fs := []) ry fun g => True.intro)
    · rw [upd_ne hd] at z
      exact (I.hok b o z).stay (fun c v hc y => k c v (by
          rcases hc with hc | hc
          · rw [hc]; exact hb
          · exact at_ne e hc exo_own) y)
        (fun c hc => by rw [upd_ne (at_ne e hc exo_own), upd_ne (ne_of_none hc hnd)]; exact hc) fun c xs hc => by rw [upd_ne (at_ne e hc exo_tup), upd_ne (ne_of_none hc hnd)]; exact hc
/-- the base's own __init__: nothing of it is told -/
theorem ox_init {us : List Value} {Q : Value → Shared → Prop} (O : OxC X.K C B newId initId tl) (I : L2.Inv X pins σ H s) (e : H a = some (exo a C none)) (hl : us.length ≤ sizeLine) (h : ∀ s', L2.Inv X pins σ H s' → Q .none s') :
    wpAny (model X.prog X.w) A (call (.builtin initId) (.ref a :: us)) Q E s := by
  obtain ⟨nm, q, N, bs, bm, sn, sub, ab, col, dd, k0, k1, k2, k3, k5, hC, hbm⟩ := O.cls
  obtain ⟨t1, ho⟩ := exo_at I.hok e
  obtain ⟨hp, gs, dr, t, os⟩ := s
  refine wpAny_call (PySem.HandSPX.init_base O.F (fun Y => PySem.W.excTail_contains Y bm hbm) (I.kIn _ _ hC) ho hl fun h' t2 k hx => ?_)
  have J := I.write (t' := t) (x := a) (e := a) (o := exo a C none) (by rw [e]; exact True.intro) (.inl rfl) k ⟨_, hx⟩ (exo_ok hx)
  have eu : upd H a (exo a C none) = H := funext fun b => by
    by_cases hb : b = a
    · rw [hb, upd_same, e]
    · rw [upd_ne hb]
  rw [eu] at J
  exact h _ J
end
/-- what an error's word may be made of -/
def strV (y : V) : Prop := (∃ z : Str, y = .str z ∧ z.length ≤ 1000) ∨ ∃ i : Int, y = .int i ∧ i.natAbs < 10 ^ 9
/-- what an own __init__ keeps -/
def spX (C : Addr) (f : Option Str) (sb : Bool) : Sp := fun vs H Q _ => match f with
  | some f => ∃ a y, vs = [.ref a, y] ∧ H a = some (exo a C none) ∧ (sb = true → strV y) ∧ ∀ dx, H dx = none → dx ≠ a → Q .non (upd (upd H dx (exd dx [(f, y)])) a (exo a C (some dx)))
  | none => ∃ a, vs = [.ref a] ∧ H a = some (exo a C none) ∧ Q .non H
/-- C(..), what is wished -/
def tMkX (C : Addr) (f : Option Str) (sb : Bool) (ta : TA) : L2.St → Hp → XK → Prop := fun σ H Q => ta σ H fun vs H1 => match f with
  | some f => ∃ y, vs = [y] ∧ (sb = true → strV y) ∧ ∀ d, H1 d = none → Q (.ref C) (some d) (upd H1 d (.xd [(f, y)]))
  | none => vs = [] ∧ Q (.ref C) none H1
section
variable {X : Cx} {pins : List (Addr × Obj)} {σ : L2.St} {H1 H2 : Hp} {a C : Addr}
/-- an error without a dict, let go -/
theorem mk_bare {Q : XK} {hp hp2 h2 : Heap} {g1 g2 : Array GenState} {d1 d2 : Drawn} {t1 t2 : Nat} {os1 os2 : OsState} (T : Raises X (.ref C)) (I1 : L2.Inv X pins σ H1 ⟨hp, g1, d1, t1, os1⟩) (ha : hp.objs.size ≤ a) (k : ∀ b o, hp.get? b = some o → hp2.get? b = some o)
    (un : Un (frs X.stack) [] (upd H1 a (exo a C none)) (upd H1 a (exo a C none)) hp2 h2) (hok : HOk X.prog X.w (upd H1 a (exo a C none)) h2) (ho : os2 = os1) (hb : AllBare g2) (q : Q (.ref C) none H1) : L2N.MkP X pins σ Q (.ref a) ⟨h2, g2, d2, t2, os2⟩ := by
  have hn : H1 a = none := I1.hok.fresh ha
  have ea : upd H1 a (exo a C none) a = some (exo a C none) := upd_same
  obtain ⟨t0, hoe⟩ := exo_at hok ea
  obtain ⟨G, z1, z2⟩ := restrict h2 fun b => decide (b ≠ a)
  have gk : ∀ b, b ≠ a → G.get? b = h2.get? b := fun b hb => z1 b (decide_eq_true hb)
  have ge : G.get? a = none := z2 a (by simp)
  have nha : ∀ {b : Addr} {o : Obj}, hp.get? b = some o → b ≠ a := fun {b o} z => Nat.ne_of_lt (Nat.lt_of_lt_of_le (Heap.lt_size z) ha)
  have up : ∀ {b : Addr}, b ≠ a → H1 b = none → upd H1 a (exo a C none) b = none := fun {b} hb n => by rw [upd_ne hb]; exact n
  have U : Un (frs X.stack) [] H1 H1 hp G := {
    keep := fun b o z n hf hx => by rw [gk b (nha z)]; exact un.keep b o (k b o z) (up (nha z) n) hf hx
    slot := fun b o z n hf hx => by rw [gk b (nha z)]; exact un.slot b o (k b o z) (up (nha z) n) hf hx
    free := fun b o z n hx => n
    there := fun b o z hx => by rw [gk b (nha z)]; exact un.there b o (k b o z) hx
    tups := fun b xs z => z
    frzs := fun b o v z => z
    tbls := fun b ps z => ⟨#[], by rw [z]; simp⟩ }
  have hok3 : HOk X.prog X.w H1 G := fun b o z => by
    have hba : b ≠ a := ne_of_none z hn
    have noa : ∀ {c : Addr}, upd H1 a (exo a C none) c = some (.own b) → c ≠ a := fun {c} hc => at_ne ea hc exo_own
    exact (hok b o (by rw [upd_ne hba]; exact z)).stay (fun c v hc y => by
        have hca : c ≠ a := by
          rcases hc with hc | hc
          · rw [hc]; exact hba
          · exact noa hc
        rw [gk c hca]; exact y) (fun c hc => by rw [upd_ne (noa hc)] at hc; exact hc) fun c xs hc => by rw [upd_ne (at_ne ea hc exo_tup)] at hc; exact hc
  have J : L2.Inv X pins σ H1 ⟨G, g2, d2, t2, os2⟩ := I1.call' (ch := []) ho U hok3 hb fun b z => absurd z (by simp)
  refine ⟨a, _, _, ⟨G, g2, d2, t2, os2⟩, H1, .ref C, none, rfl, J, fun b o z => ?_, ge, hoe, ⟨rfl, rfl, fun vs e => by cases e; rfl⟩, rfl, rfl, hn, rfl, hb, T, q⟩
  by_cases hba : b = a
  · rw [hba, ge] at z; cases z
  · exact (gk b hba).symm.trans z
end
section
variable {hot : Bool} {X : Cx} {cx : CXT} {k : Nat} {x : Str} {C fI : Addr} {fd : FuncData} {ps : List Str} {f : Option Str} {sb : Bool} {B newId initId : String} {tl : List Value} {es : List Expr} {ta : TA} {p pos : Pos}
/-- an error with its dict, let go -/
theorem mk_endN {pins : List (Addr × Obj)} {σ : L2.St} {H1 H2 : Hp} {Q : XK} {hp hp2 h2 : Heap} {g1 g2 : Array GenState} {d1 d2 : Drawn} {t1 t2 : Nat} {os1 os2 : OsState} {a C d : Addr} {fs : List (Str × V)} (T : Raises X (.ref C)) (I1 : L2.Inv X pins σ H1 ⟨hp, g1, d1, t1, os1⟩)
    (ha : hp.objs.size ≤ a) (k : ∀ b o, hp.get? b = some o → hp2.get? b = some o) (un : Un (frs X.stack) [] (upd H1 a (exo a C none)) H2 hp2 h2) (hok : HOk X.prog X.w H2 h2) (ho : os2 = os1) (hb : AllBare g2)
    (ea : H2 a = some (exo a C (some d))) (ed : H2 d = some (exd d fs)) (hd1 : H1 d = none) (q : Q (.ref C) (some d) (upd (del H2 a) d (.xd fs))) : L2N.MkP X pins σ Q (.ref a) ⟨h2, g2, d2, t2, os2⟩ := by
  obtain ⟨t0, G, J, kG, ge, hoe, na⟩ := mk_end0 (d2 := d2) (t2 := t2) I1 ha k un hok ho hb ea ed hd1
  exact ⟨a, _, _, ⟨G, g2, d2, t2, os2⟩, _, .ref C, some d, rfl, J, kG, ge, hoe, ⟨rfl, rfl, fun vs e => by cases e; rfl⟩, rfl, rfl, na, rfl, hb, T, q⟩
/-- the class is called with values -/
theorem run_x {pins : List (Addr × Obj)} {σ : L2.St} {H1 : Hp} {s1 : Shared} {Q : XK} {us : List Value} {vs : List V} (O : OxC X.K C B newId initId tl) (iC : PySem.W.findIn X.K (.ref C) "__init__" = some (some (.ref fI))) (tI : PySem.W.typeIn X.K (.ref fI) = some (.type "function"))
    (F1 : FnG hot X.prog X.w X.K X.mg X.base cx k fI fd ps (spX C f sb)) (gs : X.A.guards = some []) (hr : RoomB hot (k + 1) X.A) (hh : X.A.handled = none) (hb : Binds X.K fd ps []) (hx : ∀ σ, PassesS cx X σ (fun _ _ _ => False)) (I1 : L2.Inv X pins σ H1 s1) (r1 : Vals vs us)
    (q1 : match f with | some f => ∃ y, vs = [y] ∧ (sb = true → strV y) ∧ ∀ d, H1 d = none → Q (.ref C) (some d) (upd H1 d (.xd [(f, y)])) | none => vs = [] ∧ Q (.ref C) none H1) : wpAny (model X.prog X.w) X.A (call (.ref C) us) (L2N.MkP X pins σ Q) X.xe s1 := by
  obtain ⟨nm, q, N, bs, bm, sn, sub, ab, col, dd, k0, k1, k2, k3, k5, hC, hbm⟩ := O.cls
  obtain ⟨hp, gg, dr, tk, os⟩ := s1
  have hsz : hp.objs.size ≤ hp.objs.size + 1 := Nat.le_succ _
  have hn : H1 (hp.objs.size + 1) = none := I1.hok.fresh hsz
  have kk : ∀ b o, hp.get? b = some o → ((hp.push (PySem.W.kdv_tup us)).push (PySem.HandSPX.excO C hp.objs.size)).get? b = some o := fun b o e => Heap.get?_push_of_some _ (Heap.get?_push_of_some _ e)
  have hget : ((hp.push (PySem.W.kdv_tup us)).push (PySem.HandSPX.excO C hp.objs.size)).get? (hp.objs.size + 1) = some (PySem.HandSPX.excO C hp.objs.size) := by heap_get
  have I2 : L2.Inv X pins σ (upd H1 (hp.objs.size + 1) (exo (hp.objs.size + 1) C none)) ⟨(hp.push (PySem.W.kdv_tup us)).push (PySem.HandSPX.excO C hp.objs.size), gg, dr, tk, os⟩ :=
    I1.laid (t' := tk) (a := hp.objs.size + 1) (o := exo (hp.objs.size + 1) C none) (h' := (hp.push (PySem.W.kdv_tup us)).push (PySem.HandSPX.excO C hp.objs.size)) kk hsz (exo_ok hget)
  have r2 : Vals (V.ref (hp.objs.size + 1) :: vs) (Value.ref (hp.objs.size + 1) :: us) := .cons rfl r1
  have vl : vs.length ≤ 1 := by
    cases f with
    | some f => obtain ⟨y, e, _⟩ := q1; rw [e]; exact Nat.le_refl _
    | none => rw [q1.1]; decide
  have hus : us.length ≤ sizeLine := by rw [← Paired.length r1, sizeLine_eq]; omega
  have hsp : ∃ Qv : VK, spX C f sb (V.ref (hp.objs.size + 1) :: vs) (upd H1 (hp.objs.size + 1) (exo (hp.objs.size + 1) C none)) Qv (fun _ _ _ => False) ∧ ∀ v H2 h2 g2 d2 t2 os2, Qv v H2 → os2 = os → AllBare g2 → Un (frs X.stack) [] (upd H1 (hp.objs.size + 1) (exo (hp.objs.size + 1) C none)) H2 ((hp.push (PySem.W.kdv_tup us)).push (PySem.HandSPX.excO C hp.objs.size)) h2 → HOk X.prog X.w H2 h2 → v = .non ∧ L2N.MkP X pins σ Q (.ref (hp.objs.size + 1)) ⟨h2, g2, d2, t2, os2⟩ := by
    cases f with
    | some f =>
      obtain ⟨y, rfl, hs, q⟩ := q1
      refine ⟨fun v H2 => v = .non ∧ ∃ dx, H1 dx = none ∧ dx ≠ hp.objs.size + 1 ∧ H2 = upd (upd (upd H1 (hp.objs.size + 1) (exo (hp.objs.size + 1) C none)) dx (exd dx [(f, y)])) (hp.objs.size + 1) (exo (hp.objs.size + 1) C (some dx)), ⟨_, y, rfl, upd_same, hs, fun dx hd hne => ⟨rfl, dx, ?_, hne, rfl⟩⟩, ?_⟩
      · rw [upd_ne hne] at hd; exact hd
      · rintro v H2 h2 g2 d2 t2 os2 ⟨ev, dx, hd, hne, rfl⟩ ho hb un hok
        refine ⟨ev, mk_endN (raises_own O.exC O.tyC) I1 hsz kk un hok ho hb upd_same (by rw [upd_ne hne, upd_same]) hd ?_⟩
        have e : upd (del (upd (upd (upd H1 (hp.objs.size + 1) (exo (hp.objs.size + 1) C none)) dx (exd dx [(f, y)])) (hp.objs.size + 1) (exo (hp.objs.size + 1) C (some dx))) (hp.objs.size + 1)) dx (.xd [(f, y)]) = upd H1 dx (.xd [(f, y)]) := funext fun b => by
          by_cases hb : b = dx
          · rw [hb, upd_same, upd_same]
          · rw [upd_ne hb, upd_ne hb]
            by_cases hb2 : b = hp.objs.size + 1
            · rw [hb2, del_same, hn]
            · rw [del_ne hb2, upd_ne hb2, upd_ne hb, upd_ne hb2]
        rw [e]
        exact q dx hd
    | none =>
      obtain ⟨rfl, q⟩ := q1
      refine ⟨fun v H2 => v = .non ∧ H2 = upd H1 (hp.objs.size + 1) (exo (hp.objs.size + 1) C none), ⟨_, rfl, upd_same, rfl, rfl⟩, ?_⟩
      rintro v H2 h2 g2 d2 t2 os2 ⟨ev, rfl⟩ ho hb un hok
      exact ⟨ev, mk_bare (raises_own O.exC O.tyC) I1 hsz kk un hok ho hb q⟩
  obtain ⟨Qv, hq, fin⟩ := hsp
  have hl : (Value.ref (hp.objs.size + 1) :: us ++ []).length = ps.length := by
    have e := r2.length
    rw [F1.many _ _ _ _ hq] at e
    rw [List.append_nil]
    exact e.symm
  have bt : BindsTo ⟨(hp.push (PySem.W.kdv_tup us)).push (PySem.HandSPX.excO C hp.objs.size), gg, dr, tk, os⟩ fd ⟨Value.ref (hp.objs.size + 1) :: us, []⟩ (ps.zip (Value.ref (hp.objs.size + 1) :: us)) := by
    have := hb ⟨(hp.push (PySem.W.kdv_tup us)).push (PySem.HandSPX.excO C hp.objs.size), gg, dr, tk, os⟩ (Value.ref (hp.objs.size + 1) :: us) I2.kIn hl
    rw [List.append_nil] at this
    exact this
  refine wpAny_call (PySem.HandSPX.call_own O.F (fun Y => PySem.W.excTail_contains Y bm hbm) (I1.kIn _ _ hC) (PySem.W.looks_findIn I1.kIn iC) (fun self => PySem.W.bind_fn I1.kIn self tI) hus
    (codeAny_mono (F1.goes _ X.stack _ _ ⟨Value.ref (hp.objs.size + 1) :: us, []⟩ (Value.ref (hp.objs.size + 1) :: us) _ _ (fun _ _ _ => False) (under_g gs) (hr.make C us []) (fun _ => .inl hh) (I2.env0.make C us []) bt r2 hq) fun r s' hq' => ?_))
  match r, hq' with
  | .error er, hq' => exact hx σ pins _ _ er s' I2 hq'
  | .ok (.ret u), hq' =>
    obtain ⟨v, H2, os2, bare2, un2, hok2, rv, qv⟩ := hq'
    obtain ⟨h2, g2, d2, t2, os'⟩ := s'
    obtain ⟨ev, m⟩ := fin v H2 h2 g2 d2 t2 os' qv os2 bare2 un2 hok2
    subst ev
    exact ⟨rv, m⟩
  | .ok .next, hq' => exact (show False from hq').elim
  | .ok .brk, hq' => exact (show False from hq').elim
  | .ok .cont, hq' => exact (show False from hq').elim
/-- C(..) makes an error -/
theorem pmk_x (O : OxC X.K C B newId initId tl) (iC : PySem.W.findIn X.K (.ref C) "__init__" = some (some (.ref fI))) (tI : PySem.W.typeIn X.K (.ref fI) = some (.type "function"))
    (F1 : FnG hot X.prog X.w X.K X.mg X.base cx k fI fd ps (spX C f sb)) (gs : X.A.guards = some []) (hr : RoomB hot (k + 1) X.A) (hh : X.A.handled = none) (hb : Binds X.K fd ps []) (hx : ∀ σ, PassesS cx X σ (fun _ _ _ => False)) (hg : Gl X x) (hm : X.mg x = some (.ref C)) (hdb : (x == ("__debug__" : Str)) = false)
    (ha : PA X es ta) (h0 : es = [] → ∀ σ H Q, ta σ H Q → Q [] H) (hst : ∀ e r, es = e :: r → starEach (e :: r) X.env = (false, eval e X.env) :: starEach r X.env ∧ ∀ pos, (backTo pos (starEach r X.env)).any (·.1) = false) : L2N.PMk X (.Call (.Name x p) es [] pos) (tMkX C f sb ta) := by
  intro pins s σ H Q I h
  refine wpAny_Call_Name_kw (ld_glob I hg hm ?_ hdb)
  cases es with
  | nil =>
    exact PySem.W.callWith_K0 I.kIn O.kC (run_x (us := []) O iC tI F1 gs hr hh hb hx I .nil (h0 rfl σ H _ h))
  | cons e r =>
    obtain ⟨s1, s2⟩ := hst e r rfl
    exact PySem.W.callWith_K (h₀ := X.base) I.ok.mod.kin O.kC (thn (ha.run pos pins s σ H _ I h) fun us s1 ⟨vs, H1, I1, r1, q1⟩ => ⟨I1.kIn, run_x O iC tI F1 gs hr hh hb hx I1 r1 q1⟩) s1 (s2 pos)
end
end G
/-! GS: sets of whole numbers and of texts, made of a list, a tuple or a text, and put in order. -/
namespace G
open PySem L2 PyProof.Rows
section
variable {P : Program} {w : World} {A : Around} {E : Value → Shared → Prop} {s : Shared} {κ : Type} [DecidableEq κ] {knd : PySem.KeyKind P w κ}
/-- a set that holds the keys l, each once, its table in order -/
def SG (knd : PySem.KeyKind P w κ) (h : Heap) (a : Addr) (l : List κ) : Prop :=
  ∃ o es ep t, h.get? a = some o ∧ o.ExactSet ∧ o.data = .set es ep t ∧ ElemsOf knd es.toList ∧ (∀ k, k ∈ l ↔ ∃ e ∈ es.toList, knd.is k e.2 = true) ∧ es.size = l.length ∧ l.Nodup ∧ es.size < scanBound ∧ t.fits es.size = true ∧ Ris t.place.toList ∧
    (w.params.followText "set-order" = true ∨ t.led = true)
theorem SG.at {h h' : Heap} {a : Addr} {l : List κ} (R : SG knd h a l) (k : ∀ o, h.get? a = some o → h'.get? a = some o) : SG knd h' a l := by
  obtain ⟨o, es, ep, t, ho, r⟩ := R
  exact ⟨o, es, ep, t, k o ho, r⟩
theorem sg_tail {a : Addr} {g : Bool → Sem Unit} (hg : ∀ (b : Bool) (s₁ : Shared) (Q' : Unit → Shared → Prop), Q' () s₁ → wpAny (model P w) A (g b) Q' E s₁)
    {o : Obj} {es : Array (Int × Value)} {ep : Nat} {t : SetTable} (ho : s.heap.get? a = some o) (hex : o.ExactSet) (hd : o.data = .set es ep t)
    {es1 : Array (Int × Value)} {t2 : SetTable} {l : List κ} (el : ElemsOf knd es1.toList) (mem : ∀ k, k ∈ l ↔ ∃ e ∈ es1.toList, knd.is k e.2 = true) (sz : es1.size = l.length) (nd : l.Nodup)
    (hb1 : es1.size < scanBound) (hf2 : t2.fits es1.size = true) (hr : Ris t2.place.toList) (hl : w.params.followText "set-order" = true ∨ t2.led = true) {wasDummy : Bool} {R : Option Bool → Shared → Prop}
    (hR : ∀ h', Heap.SameBut a s.heap h' → SG knd h' a l → R (some true) { s with heap := h' }) :
    wpAny (model P w) A (do
        storeSet a es1 t2
        if (!wasDummy && t2.tooFull) = true then do
            g (relayAll t2 es1 (SetTable.grown es1.size)).2.2
            storeSet a (relayAll t2 es1 (SetTable.grown es1.size)).1 (relayAll t2 es1 (SetTable.grown es1.size)).2.1
            pure (some true)
          else pure (some true)) R E s := by
  have ho1 := store_at (es' := es1) (t' := t2) ho hd
  have sb1 := Heap.SameBut.update s.heap a (Obj.putSet es1 t2)
  refine wpAny_bind (wpAny_storeSet_of ho hd ?_ (fits_of_scanBound hb1))
  split
  · have pm := relayAll_perm t2 es1 (SetTable.grown es1.size)
    have hf3 := relayAll_fits t2 es1 (SetTable.grown es1.size)
    have hr3 := relayAll_ris t2 es1 (SetTable.grown es1.size)
    have hl3 := relayAll_led t2 es1 (SetTable.grown es1.size)
    generalize relayAll t2 es1 (SetTable.grown es1.size) = Z at pm hf3 hr3 hl3 ⊢
    obtain ⟨es2, t3, gave⟩ := Z
    dsimp only at pm hf3 hr3 hl3 ⊢
    have hsz : es2.size = es1.size := by simpa using pm.length_eq
    have hb2 : es2.size < scanBound := by rw [hsz]; exact hb1
    have ho2 := store_at (es' := es2) (t' := t3) ho1 rfl
    refine wpAny_bind (hg _ _ _ (wpAny_bind (wpAny_storeSet_of ho1 rfl ?_ (fits_of_scanBound hb2))))
    refine wpAny_pure (hR _ (sb1.trans (Heap.SameBut.update _ a _)) ⟨_, es2, _, t3, ho2, hex, rfl, el.perm pm, fun k => (mem k).trans ⟨fun ⟨e, he, q⟩ => ⟨e, pm.mem_iff.mpr he, q⟩, fun ⟨e, he, q⟩ => ⟨e, pm.mem_iff.mp he, q⟩⟩, hsz.trans sz, nd, hb2, hf3, hr3,
      hl.imp id fun z => by rw [hl3]; exact z⟩)
  · exact wpAny_pure (hR _ sb1 ⟨_, es1, _, t2, ho1, hex, rfl, el, mem, sz, nd, hb1, hf2, hr, hl⟩)
/-- a key is put in -/
theorem sg_add {a : Addr} {k : κ} {v : Value} {l : List κ} {Q : Bool → Shared → Prop} (hk : knd.is k v = true) (hv : v.scannable = true) (R : SG knd s.heap a l) (room : l.length + 1 < scanBound)
    (hQ : ∀ b h', Heap.SameBut a s.heap h' → SG knd h' a (if k ∈ l then l else k :: l) → Q b { s with heap := h' }) : wpAny (model P w) A (setAddHashed a v (knd.hash k)) Q E s := by
  obtain ⟨o, es, ep, t, ho, hex, hd, el, mem, sz, nd, hb, hf, hr, hl⟩ := R
  unfold setAddHashed setAddHashedIn
  refine wpAny_holding (wpAny_bind (wpAny_setState_of ho hd hf ?_))
  dsimp only
  rw [byScan_of hv hb el]
  simp only [↓reduceIte]
  unfold setAddByScan
  refine wpAny_bind (wpAny_bind (wpAny_rule (wpAny_bind (wpAny_setScan_of hk ho hd hf el ?_))))
  cases hfi : List.findIdx? (fun e => knd.is k e.2) es.toList with
  | some j =>
    obtain ⟨hj, pj, _⟩ := List.findIdx?_eq_some_iff_getElem.mp hfi
    have hin : k ∈ l := (mem k).2 ⟨es.toList[j], List.getElem_mem hj, pj⟩
    dsimp only
    exact wpAny_pure (wpAny_pure (hQ false s.heap (Heap.SameBut.refl a s.heap) (by rw [if_pos hin]; exact ⟨o, es, ep, t, ho, hex, hd, el, mem, sz, nd, hb, hf, hr, hl⟩)))
  | none =>
    dsimp only
    have hnk : k ∉ l := fun z => by
      obtain ⟨e, he, q⟩ := (mem k).1 z
      have c := List.findIdx?_eq_none_iff.mp hfi e he
      rw [q] at c
      cases c
    have pm := layNew_perm t es (knd.hash k) v
    have hf1 := layNew_fits t es (knd.hash k) v
    have hr1 := layNew_ris t es (knd.hash k) v hr
    have hl1 := layNew_led t es (knd.hash k) v
    generalize layNew t es (knd.hash k) v = Z at pm hf1 hr1 hl1 ⊢
    obtain ⟨es1, t1, wasDummy, gave⟩ := Z
    dsimp only at pm hf1 hr1 hl1 ⊢
    rw [Array.toList_push] at pm
    have el1 : ElemsOf knd es1.toList := (el.push hk hv).perm pm
    have mem1 : ∀ k', k' ∈ k :: l ↔ ∃ e ∈ es1.toList, knd.is k' e.2 = true := fun k' => by
      constructor
      · intro hm
        rcases List.mem_cons.mp hm with rfl | hm
        · exact ⟨(knd.hash k', v), pm.mem_iff.mpr (by simp), hk⟩
        · obtain ⟨e, he, z⟩ := (mem k').mp hm
          exact ⟨e, pm.mem_iff.mpr (List.mem_append_left _ he), z⟩
      · rintro ⟨e, he, z⟩
        rcases List.mem_append.mp (pm.mem_iff.mp he) with he | he
        · exact List.mem_cons_of_mem _ ((mem k').mpr ⟨e, he, z⟩)
        · rw [List.mem_singleton] at he
          rw [he] at z
          rw [knd.inj v k' k z hk]
          exact List.mem_cons_self ..
    have sz1 : es1.size = (k :: l).length := by
      have := pm.length_eq
      simp at this
      simp [this, sz]
    have hb1 : es1.size < scanBound := by rw [sz1]; exact room
    have hled : w.params.followText "set-order" = true ∨ t1.led = true := hl.imp id fun z => by rw [hl1]; exact z
    have nd1 : (k :: l).Nodup := List.nodup_cons.mpr ⟨hnk, nd⟩
    have hQ' : ∀ h', Heap.SameBut a s.heap h' → SG knd h' a (k :: l) → Q true { s with heap := h' } := fun h' sb r => hQ true h' sb (by rw [if_neg hnk]; exact r)
    have hgw : ∀ (b : Bool) (Q' : Unit → Shared → Prop), Q' () s → wpAny (model P w) A (match b with | true => rule "set.scan.the-table-gave-way" | false => pure ()) Q' E s := by
      intro b Q' q; cases b; exact wpAny_pure q; exact wpAny_rule q
    refine wpAny_bind (hgw gave _ ?_)
    split
    · refine wpAny_bind ?_
      rw [hashByValue_scannable 8 hv]
      refine wpAny_pure (sg_tail (knd := knd) ?_ ho hex hd el1 mem1 sz1 nd1 hb1 ?_ ?_ ?_ ?_)
      · intro b s₁ Q' q; cases b; exact wpAny_pure q; exact wpAny_rule q
      · split; exact SetTable.fits_plain_off hf1; exact hf1
      · split <;> exact hr1
      · split <;> exact hled
      · intro h' sb r; dsimp only; exact wpAny_pure (hQ' h' sb r)
    · refine wpAny_bind (wpAny_pure ?_)
      simp only [↓reduceIte]
      refine sg_tail (knd := knd) ?_ ho hex hd el1 mem1 sz1 nd1 hb1 hf1 hr1 hled ?_
      · intro b s₁ Q' q; cases b; exact wpAny_pure q; exact wpAny_rule q
      · intro h' sb r; dsimp only; exact wpAny_pure (hQ' h' sb r)
open PySem.W in
theorem sg_new {h : Heap} {a : Addr} (ho : h.get? a = some { cls := .type "set", dict := none, data := .set #[] 0 (.fresh 0 0 (!w.params.followText "set-order")) }) : SG knd h a [] :=
  ⟨_, #[], 0, _, ho, ⟨rfl, rfl, rfl⟩, rfl, (fun e he => by simp at he), (fun k => by simp), rfl, List.nodup_nil, (by decide), rfl, List.Pairwise.nil, by
    show _ ∨ (!w.params.followText "set-order") = true
    cases w.params.followText "set-order"
    · exact .inr rfl
    · exact .inl rfl⟩
/-- the keys of an iterator are put in, one by one -/
theorem sg_loop {I : Addr} {fp wr : List Addr} {G : Array GenState → Array GenState → Prop} {n : Nat} {Pv : Nat → Value → Prop} {St : Nat → Shared → Prop} {R : Result → Shared → Prop}
    (W : WalksS P w A.in1 I fp wr G n Pv St) (S : Addr) (hSf : S ∉ fp) (ks : List κ) (hn : n = ks.length) (hb : ks.length + 1 < scanBound) (hval : ∀ i v, Pv i v → ∃ k, ks[i]? = some k ∧ knd.is k v = true ∧ v.scannable = true) :
    ∀ (m i : Nat) (s : Shared), n - i = m → i ≤ n → St i s → (∃ l, l.length ≤ i ∧ SG knd s.heap S l ∧ ∀ x, x ∈ l ↔ x ∈ ks.take i) →
      (∀ s' l, Moved (S :: wr) G s s' → SG knd s'.heap S l → (∀ x, x ∈ l ↔ x ∈ ks) → R (.ok (.ret .none)) s') →
      codeAny (model P w) A (.builtin "set.update.loop" ⟨[.ref S, .ref I], []⟩) R s := by
  have hSw : S ∉ wr := fun h => hSf (W.sub _ h)
  have hsub : ∀ b ∈ wr, b ∈ S :: wr := fun b hb => List.mem_cons_of_mem _ hb
  intro m
  induction m with
  | zero =>
    intro i s hk' hi hst ⟨l, hl, hS, hm⟩ hR
    have hin : i = n := by omega
    subst hin
    refine codeAny_builtin F.entry_set_update_loop ?_
    rw [Around.under_plainId F.plain_set_update_loop _]
    refine wpAny_bind (m := pyNext (.ref I)) (W.done s _ _ hst fun s' hmv => ?_)
    have e : ks.take i = ks := List.take_of_length_le (by omega)
    rw [e] at hm
    exact wpAny_pure (hR s' l (hmv.mono hsub) (hS.at fun o e => hmv.heap S o hSw e) hm)
  | succ m ih =>
    intro i s hk' hi hst ⟨l, hl, hS, hm⟩ hR
    have hlt : i < n := by omega
    refine codeAny_builtin F.entry_set_update_loop ?_
    rw [Around.under_plainId F.plain_set_update_loop _]
    refine wpAny_bind (m := pyNext (.ref I)) (W.item i s _ _ hlt hst fun v s' hP hst' hmv => ?_)
    obtain ⟨z, hz, hk, hv⟩ := hval i v hP
    have hS' : SG knd s'.heap S l := hS.at fun o e => hmv.heap S o hSw e
    refine wpAny_bind (m := holding [v] (setAdd S v)) (wpAny_holding ?_)
    unfold setAdd
    refine wpAny_holding ?_
    refine wpAny_bind (knd.pyHash (k := z) hk ?_)
    refine sg_add (s := { s' with toks := s'.toks + 1 }) hk hv hS' (by omega) fun b h' hsb hS2 => ?_
    refine wpAny_pure ⟨plainId_quiet F.plain_set_update_loop _, ih (i + 1) _ (by omega) hlt (W.frame _ s' _ _ hst' (Nat.le_succ _) fun b hb o e => ?_) ⟨_, ?_, hS2, fun x => ?_⟩ fun s'' l2 hm'' hS'' hx'' => ?_⟩
    · rw [hsb.2 b (fun h : b = S => hSf (by rw [← h]; exact hb))]; exact e
    · split
      · omega
      · simp only [List.length_cons]; omega
    · rw [List.take_add_one, hz]
      simp only [Option.toList, List.mem_append, List.mem_singleton]
      split
      · rename_i hc
        rw [hm x]
        constructor
        · exact .inl
        · rintro (h | rfl)
          · exact h
          · exact (hm x).mp hc
      · rw [List.mem_cons, hm x]
        exact ⟨fun h => h.symm, fun h => h.symm⟩
    · refine hR s'' l2 (Moved.trans W.gtrans ((hmv.mono hsub).then_heap (Nat.le_succ _) fun b o hb e => ?_) hm'') hS'' hx''
      rw [hsb.2 b (fun h : b = S => hb (by rw [h]; exact List.mem_cons_self))]; exact e
/-- what can be gone through to fill a set with the keys ks -/
def SSrc (P : Program) (w : World) (E : Value → Shared → Prop) (knd : PySem.KeyKind P w κ) (h0 : Heap) (v : Value) (ks : List κ) : Prop :=
  ∀ (A' : Around) (s' : Shared) (S : Addr) (Q' : Unit → Shared → Prop), A'.handled = none → (∀ b u, h0.get? b = some u → s'.heap.get? b = some u) → h0.objs.size ≤ S → S < s'.heap.objs.size → SG knd s'.heap S [] →
    (∀ h' tk l, SG knd h' S l → (∀ x, x ∈ l ↔ x ∈ ks) → (∀ b u, b ≠ S → s'.heap.get? b = some u → h'.get? b = some u) → Q' () { s' with heap := h', toks := tk }) →
    wpAny (model P w) A' (pyIter v >>= fun i => runValue (.builtin "set.update.loop" ⟨[.ref S, i], []⟩) >>= fun _ => pure ()) Q' E s'
theorem ssrc_walk {h0 : Heap} {v : Value} {ks : List κ} {o : Obj} {ax : List Addr} {Pv : Nat → Value → Prop} {St : Addr → Nat → Heap → Prop} (hax : ∀ b ∈ ax, b < h0.objs.size) (hof : o.isFreed = false)
    (it : ∀ (A' : Around) (s' : Shared) (Q' : Value → Shared → Prop), (∀ b u, h0.get? b = some u → s'.heap.get? b = some u) → Q' (.ref s'.heap.objs.size) { s' with heap := s'.heap.push o } → wpAny (model P w) A' (pyIter v) Q' E s')
    (W : ∀ (A' : Around) (I : Addr), A'.handled = none → I ∉ ax → Walks P w A' I (I :: ax) [I] ks.length Pv (St I)) (hst : ∀ h' I, (∀ b u, h0.get? b = some u → h'.get? b = some u) → h'.get? I = some o → St I 0 h')
    (hb : ks.length + 1 < scanBound) (hval : ∀ i v, Pv i v → ∃ k, ks[i]? = some k ∧ knd.is k v = true ∧ v.scannable = true) : SSrc P w E knd h0 v ks := by
  intro A' s' S Q' hh ext hS1 hS2 hS hQ
  refine wpAny_bind (it A' s' _ ext ?_)
  refine wpAny_bind (wpAny_runValue ?_)
  have hI : s'.heap.objs.size ∉ ax := fun h => by
    exact absurd (Nat.lt_of_lt_of_le (hax _ h) (Nat.le_trans hS1 (Nat.le_of_lt hS2))) (Nat.lt_irrefl _)
  have hg : (s'.heap.push o).get? s'.heap.objs.size = some o := Heap.get?_push_size _ hof
  have hSf : S ∉ s'.heap.objs.size :: ax := fun h => by
    rcases List.mem_cons.mp h with h | h
    · exact Nat.ne_of_lt hS2 h
    · exact absurd (Nat.lt_of_lt_of_le (hax _ h) hS1) (Nat.lt_irrefl _)
  refine sg_loop (s := { s' with heap := s'.heap.push o }) ((W A'.in1 s'.heap.objs.size (by simpa using hh) hI).toS) S hSf ks rfl hb hval (ks.length - 0) 0 (by omega) (Nat.zero_le _) (hst _ _ (fun b u e => Heap.get?_push_of_some _ (ext b u e)) hg)
    ⟨[], Nat.le_refl 0, hS.at fun o e => Heap.get?_push_of_some _ e, fun x => by simp⟩ fun s2 l hm hl hx => ?_
  obtain ⟨h2, g2, d2, tk2, os2⟩ := s2
  have eg : g2 = s'.gens := hm.gens
  have ed : d2 = s'.drawn := hm.drawn
  have eo : os2 = s'.os := hm.os
  subst eg ed eo
  refine wpAny_pure (hQ h2 tk2 l hl hx fun b u ne e => hm.heap b u (fun hc => ?_) (Heap.get?_push_of_some _ e))
  have hlt := Heap.lt_size e
  rcases List.mem_cons.mp hc with h | h
  · exact ne h
  · rw [List.mem_singleton] at h
    exact Nat.ne_of_lt hlt h
abbrev kitSet (w : World) : Obj := { cls := .type "set", dict := none, data := .set #[] 0 (.fresh 0 0 (!w.params.followText "set-order")) }
theorem sg_from {id : String} {v : Value} {T : String} {ks : List κ} {h0 : Heap} {S : Addr} {Q : Unit → Shared → Prop} (hT : s.TypeIs v T) (hh : A.handled = none)
    (h1 : isSubtype (.type T) (.type "set") = pure false) (h2 : isSubtype (.type T) (.type "frozenset") = pure false) (h3 : (Value.type T == Value.type "dict") = false)
    (src : SSrc P w E knd h0 v ks) (ext : ∀ b u, h0.get? b = some u → s.heap.get? b = some u) (hS1 : h0.objs.size ≤ S) (hS2 : S < s.heap.objs.size) (hS : SG knd s.heap S [])
    (hQ : ∀ h' tk l, SG knd h' S l → (∀ x, x ∈ l ↔ x ∈ ks) → (∀ b u, b ≠ S → s.heap.get? b = some u → h'.get? b = some u) → Q () { s with heap := h', toks := tk }) :
    wpAny (model P w) A (Builtin.Frozenset.updateFrom id S v) Q E s := by
  unfold Builtin.Frozenset.updateFrom
  refine wpAny_bind (m := Builtin.Frozenset.isAnySet v) (wpAny_bind (m := isInstance v (.type "set")) (wpAny_isInstance hT h1 (wpAny_isInstance hT h2 ?_)))
  simp only [Bool.false_eq_true, if_false]
  refine wpAny_bind (wpAny_typeOf hT ?_)
  simp only [h3, Bool.false_eq_true, if_false]
  exact src A s S Q hh ext hS1 hS2 hS hQ
theorem call_set_src {v : Value} {T : String} {ks : List κ} {Q : Value → Shared → Prop} (hh : A.handled = none) (hT : ∀ s' : Shared, (∀ b u, s.heap.get? b = some u → s'.heap.get? b = some u) → s'.TypeIs v T)
    (h1 : isSubtype (.type T) (.type "set") = pure false) (h2 : isSubtype (.type T) (.type "frozenset") = pure false) (h3 : (Value.type T == Value.type "dict") = false) (src : SSrc P w E knd s.heap v ks)
    (h : ∀ (h' : Heap) (tk : Nat) (l : List κ), SG knd h' s.heap.objs.size l → (∀ x, x ∈ l ↔ x ∈ ks) → (∀ b o, s.heap.get? b = some o → h'.get? b = some o) → Q (.ref s.heap.objs.size) { s with heap := h', toks := tk }) :
    wpAny (model P w) A (call (.type "set") [v]) Q E s := by
  obtain ⟨c, tl, hmro⟩ := F.called_set.mro
  have hmade := F.called_set.made
  have hsub := F.called_set.sub
  refine wpAny_call (codeAny_of_tree ?_)
  change wpAny _ _ (callAny (.type "set") ⟨[v], []⟩) _ _ _
  refine wpAny_pure ⟨Code.quiet_builtin _ (by decide +kernel), codeAny_builtin F.entry_type_call ?_⟩
  rw [Around.under_plain (weight_type_call_type "set" [v] []) rfl]
  have q1 := F.called_set.notType
  have q2 := F.called_set.canCreate
  have hct := F.typeCall_set_1 v
  repeat (any_goals (first | assumption | wp_step))
  refine codeAny_mono (code_set_led1 v (E := E) (Q₁ := fun obj s₁ => obj = .ref s.heap.objs.size ∧ s₁ = { s with heap := s.heap.push (kitSet w) }) ⟨rfl, rfl⟩) fun r s₁ hr => ?_
  cases r with
  | error e => exact hr
  | ok fl =>
    cases fl with
    | ret obj =>
      obtain ⟨rfl, rfl⟩ := hr
      have hS : (s.heap.push (kitSet w)).get? s.heap.objs.size = some (kitSet w) := Heap.get?_push_size _ rfl
      have hTs : Shared.TypeIs { s with heap := s.heap.push (kitSet w) } (.ref s.heap.objs.size) "set" := ⟨_, hS, rfl⟩
      have hli := F.called_set.init.lookup
      have hbi := F.called_set.init.bind (.ref s.heap.objs.size)
      repeat (any_goals (first | assumption | wp_step))
      refine codeAny_mono (codeAny_call_builtin (R := wants (fun r s₂ => r = .none ∧ ∃ h' tk l, s₂ = { s with heap := h', toks := tk } ∧ SG knd h' s.heap.objs.size l ∧ (∀ x, x ∈ l ↔ x ∈ ks) ∧
          (∀ b o, s.heap.get? b = some o → h'.get? b = some o)) E) F.called_set.init.plain F.entry_set_init (check_set_init_1 hTs ?_)) fun r₂ s₂ hr₂ => ?_
      · unfold Builtin.«set.__init__» noKeywords
        generalize hUF : Builtin.Frozenset.updateFrom = UF
        wp_walk
        subst hUF
        refine sg_from (knd := knd) (ks := ks) (h0 := s.heap) (T := T) (hT _ fun b u e => Heap.get?_push_of_some _ e) (by simpa using hh) h1 h2 h3 src (fun b u e => Heap.get?_push_of_some _ e) (Nat.le_refl _) ?_ (sg_new hS) fun h' tk l hl hx hk => ?_
        · show s.heap.objs.size < (s.heap.push (kitSet w)).objs.size
          rw [Heap.size_push]; exact Nat.lt_succ_self _
        · refine wpAny_pure ⟨rfl, h', tk, l, rfl, hl, hx, fun b o e => hk b o (Nat.ne_of_lt (Heap.lt_size e)) (Heap.get?_push_of_some _ e)⟩
      · cases r₂ with
        | error e => exact hr₂
        | ok fl₂ =>
          cases fl₂ with
          | ret r =>
            obtain ⟨rfl, h', tk, l, rfl, hS', hx, hk'⟩ := hr₂
            repeat (any_goals (first | assumption | wp_step))
            exact h _ _ _ hS' hx hk'
          | _ => exact hr₂.elim
    | _ => exact hr.elim
end
end G
/-! G8: contexts; each form of expression keeps its wish. -/
namespace G
open PySem L2
/-- a def's promise, whatever lists are being made around -/
def spOf (K : PySem.W.Frag) (mg : Str → Option Value) (φ : FSp) : Sp := fun vs H Q E => ∃ B ds S Qd Xd, RDs ⟨K, mg, B⟩ S H ds vs ∧ RS ⟨K, mg, B⟩ S H ∧ φ ds S Qd Xd ∧ Cont ⟨K, mg, B⟩ S H Qd Q ∧ ContX ⟨K, mg, B⟩ S H Xd E
def kdV (mg : Str → Option Value) : Kd → Value → Prop
  | .b n, u => u = .type n
  | .o C, u => ∃ c, mg C = some (.ref c) ∧ u = .ref c
/-- what isinstance asks of an own class -/
def InsTy (K : PySem.W.Frag) (c : Addr) : Prop := Cls K c ∧ PySem.W.findIn K (.ref c) "__class__" = some (some (.builtin "object.__class__")) ∧
  PySem.W.specialIn K (.builtin "object.__class__") "__get__" = some (some (.builtin "getset_descriptor.__get__")) ∧ PySem.W.takesIn K (.builtin "object.__class__") = some true ∧ PySem.W.mroIn K c (.type "object") = some true
/-- what a class's name says: an own class, a built-in one -/
def nmV (mg : Str → Option Value) (x : Str) (u : Value) : Prop := (∃ c, u = .ref c ∧ mg x = some (.ref c)) ∨ ∃ n, u = .type n ∧ mg x = none ∧ bootBuiltins x = some (.type n) ∧ x ≠ "__name__"
/-- an error's class: how one is made, how its field is read -/
def XcOk (K : PySem.W.Frag) (mg : Str → Option Value) (P : Program) (w : World) (base : Heap) (k : Nat) (C : Str) (f : Option Str) (sb : Bool) : Prop :=
  ∃ (c fI : Addr) (B newId initId : String) (tl : List Value) (fd : FuncData) (ps : List Str), mg C = some (.ref c) ∧ OxC K c B newId initId tl ∧ PySem.W.findIn K (.ref c) "__init__" = some (some (.ref fI)) ∧ PySem.W.typeIn K (.ref fI) = some (.type "function") ∧ Binds K fd ps [] ∧
    FnG true P w K mg base (L2N.CX P w) k fI fd ps (spX c f sb) ∧ XfC K c ∧ ∀ z, f = some z → PySem.W.findIn K (.ref c) z = some none
structure GE (T : Tab) (K : PySem.W.Frag) (mg : Str → Option Value) (P : Program) (w : World) (base : Heap) (k : Nat) : Prop where
  con : ∀ x d, T.con x = some d → ∃ v u, mg x = some u ∧ RelV v u ∧ ∀ B S H, RD ⟨K, mg, B⟩ S H d v
  fns : ∀ f φ, T.fn f = some φ → ∃ a fd ps, mg f = some (.ref a) ∧ PySem.W.keepIn K (.ref a) = true ∧ FnG (T.hot f) P w K mg base (L2N.CX P w) k a fd ps (spOf K mg φ) ∧
    (∀ df, T.dfs f df → ∃ dvs us, Binds K fd ps us ∧ Vals dvs us ∧ ∀ B S H, RDs ⟨K, mg, B⟩ S H df dvs) ∧
    ∀ n ks pl, T.kw f n ks = some pl → ∃ gU gV, KBn K fd ps n ks gU gV ∧ ∀ B S H ds us vs zs, ds.length = n → us.length = ks.length → RDs ⟨K, mg, B⟩ S H ds vs → RDs ⟨K, mg, B⟩ S H us zs → RDs ⟨K, mg, B⟩ S H (pick pl (ds ++ us)) (gV vs zs)
  mes : ∀ C m φ, T.me C m = some φ → ∃ c a fd ps, mg C = some (.ref c) ∧ Cls K c ∧ Meth K c m a ∧ FnG false P w K mg base (L2N.CX P w) k a fd ps (spOf K mg φ) ∧ Binds K fd ps []
  mks : ∀ C φ, T.me C ini = some φ → ∃ c a fd ps, mg C = some (.ref c) ∧ Mk K c a ∧ FnG false P w K mg base (L2N.CX P w) k a fd ps (spOf K mg φ) ∧
    ∀ df, T.dfs C df → ∃ dvs us, Binds K fd ps us ∧ Vals dvs us ∧ ∀ B S H, RDs ⟨K, mg, B⟩ S H df dvs
  fld : ∀ C f, f ∈ T.flds C → ∃ c, mg C = some (.ref c) ∧ Cls K c ∧ NoAttr K c f
  isi : ∀ k t kv tv, kOk k = true → tOk t = true → kdV mg k kv → kdV mg t tv → PySem.W.kitOne K kv tv = some (isiB k t) ∧ ∀ C c, k = .o C → mg C = some (.ref c) → InsTy K c
  blt : ∀ x : Str, x ∈ (["len", "all", "any", "abs", "max", "min", "int", "str", "tuple", "list", "divmod", "isinstance", "range", "enumerate", "zip", "bool", "dict", "sorted", "set", "repr", "sum", "reversed"] : List Str) → mg x = none
  xcs : ∀ C f sb, T.xc C = some (f, sb) → XcOk K mg P w base k C f sb
  xsb : ∀ C D b, T.xs C D = some b → ∃ c u, mg C = some (.ref c) ∧ ExcC K c ∧ nmV mg D u ∧ PySem.W.exmOne K (.ref c) u = some b ∧ PySem.W.kitOne K (.ref c) u = some b
  gdb : ∀ x kvs, T.gd x = some kvs → ∃ a, mg x = some (.ref a) ∧ GdAt K a kvs
  rps : ∀ C ps, T.rp C = some ps → RpOk K mg P w base C ps
  spb : ∀ C, T.spc C = true → ∀ cc, mg C = some (.ref cc) → PySem.W.findIn K (.ref cc) "__ne__" = some (some (.builtin "object.__ne__")) ∧ PySem.W.subIn K (.ref cc) (.type "object") = some true
/-- an error's wish, by the slots -/
def WT (g : Gx) (ex : QE) (S0 : Sto) (H0 : Hp) : WX := fun c d σ H' => ∃ ρ S e, Rl g S0 H0 ρ S σ H' ∧ RX g S H' e c d ∧ ex ρ e S
/-- the error that is held, if any, is one of the tracked things, no thing of the store -/
def HotH (A : Around) (S : Sto) (H : Hp) : Prop := A.handled = none ∨ ∃ a c d, A.handled = some (.ref a) ∧ H a = some (exT a c d) ∧ S a = none
theorem HotH.step {A : Around} {S S1 : Sto} {H H1 : Hp} (h : HotH A S H) (st : Step S H S1 H1) : HotH A S1 H1 := by
  rcases h with z | ⟨a, c, d, h1, h2, h3⟩
  · exact .inl z
  · exact .inr ⟨a, c, d, h1, st a _ h2 h3⟩
theorem HotH.s {A : Around} {S : Sto} {H : Hp} (h : HotH A S H) : HotS A H := by
  rcases h with z | ⟨a, c, d, h1, h2, h3⟩
  · exact .inl z
  · exact .inr ⟨a, c, d, h1, h2⟩
/-- a context that fits: c the names, ex what is wanted of an error, (S0, H0) where it began -/
structure Good (T : Tab) (k : Nat) (g : Gx) (X : Cx) (c : Sc) (ex : QE) (S0 : Sto) (H0 : Hp) : Prop where
  gK : X.K = g.K
  gm : X.mg = g.mg
  N : X.N = c.N
  sc : X.env.scope = c.sc
  fnk : X.fn = c.fn
  nd : X.N.Nodup
  calm : c.hot = false → X.calm = true
  room : RoomB c.hot (k + 1) X.A
  gds : X.A.guards = some []
  ge : GE T g.K g.mg X.prog X.w X.base k
  hotc : c.hot = true → c.deep = false → HotH X.A S0 H0
  tk : L2N.Takes X (WT g ex S0 H0)
theorem Good.pass {T : Tab} {k : Nat} {g : Gx} {X : Cx} {c : Sc} {ex : QE} {S0 : Sto} {H0 : Hp} (gd : Good T k g X c ex S0 H0) {ρ : Sl} {S : Sto} {σ : L2.St} {H : Hp} (r : Rl g S0 H0 ρ S σ H) : PassesS (L2N.CX X.prog X.w) X σ (EX g (ex ρ) S H) :=
  fun pins H1 s e s' I c => gd.tk e s' (L2N.XE.of_call I (fun cls d H' ⟨e, S', rx, rs', st', q⟩ => ⟨ρ, S', e, r.step rs' st', rx, q⟩) c)
theorem Good.hoth {T : Tab} {k : Nat} {g : Gx} {X : Cx} {c : Sc} {ex : QE} {S0 : Sto} {H0 : Hp} (gd : Good T k g X c ex S0 H0) (hq : c.hot = true → c.deep = false) : HotH X.A S0 H0 := by
  cases h : c.hot with
  | false => exact .inl (gd.room.hd h)
  | true => exact gd.hotc h (hq h)
theorem Good.hots {T : Tab} {k : Nat} {g : Gx} {X : Cx} {c : Sc} {ex : QE} {S0 : Sto} {H0 : Hp} (gd : Good T k g X c ex S0 H0) (hq : c.hot = true → c.deep = false) {ρ : Sl} {S : Sto} {σ : L2.St} {H : Hp} (r : Rl g S0 H0 ρ S σ H) : HotS X.A H := ((gd.hoth hq).step r.st).s
theorem _root_.L2.PE.imp {X : Cx} {e : Expr} {t t' : TE} (h : PE X e t) (f : ∀ σ H Q, t' σ H Q → t σ H Q) : PE X e t' := ⟨fun pins s σ H Q I q => h.run pins s σ H Q I (f σ H Q q)⟩
theorem _root_.L2.PT.imp {X : Cx} {e : Expr} {t t' : TT} (h : PT X e t) (f : ∀ σ H Q, t' σ H Q → t σ H Q) : PT X e t' := ⟨fun pins s σ H Q I q => h.run pins s σ H Q I (f σ H Q q)⟩
theorem _root_.L2.PW.imp {X : Cx} {e : Expr} {t t' : TT} (h : PW X e t) (f : ∀ σ H Q, t' σ H Q → t σ H Q) : PW X e t' := ⟨fun wh pins s σ H Q I q => h.run wh pins s σ H Q I (f σ H Q q)⟩
theorem _root_.L2.PA.imp {X : Cx} {e : List Expr} {t t' : TA} (h : PA X e t) (f : ∀ σ H Q, t' σ H Q → t σ H Q) : PA X e t' := ⟨fun p pins s σ H Q I q => h.run p pins s σ H Q I (f σ H Q q)⟩
theorem _root_.L2.PI.imp {X : Cx} {tg e : Expr} {t t' : TI} (h : PI X tg e t) (f : ∀ σ H Q, t' σ H Q → t σ H Q) : PI X tg e t' := ⟨fun pins s σ H Q I q => h.run pins s σ H Q I (f σ H Q q)⟩
theorem _root_.L2.PS.imp {X : Cx} {e : Stmt} {t t' : TS} (h : PS X e t) (f : ∀ D σ H, t' D σ H → t D σ H) : PS X e t' := ⟨fun pins s σ H D I q => h.run pins s σ H D I (f D σ H q)⟩
theorem _root_.L2.PSs.imp {X : Cx} {e : List Stmt} {t t' : TS} (h : PSs X e t) (f : ∀ D σ H, t' D σ H → t D σ H) : PSs X e t' := ⟨fun pins s σ H D I q => h.run pins s σ H D I (f D σ H q)⟩
section
variable {T : Tab} {k : Nat} {g : Gx} {X : Cx} {c : Sc} {ex : QE} {S0 : Sto} {H0 : Hp}
theorem vis_of {o : Option NameKind} (h : visB o = true) : o = some .local ∨ o = some .cell ∨ o = some .free := by
  unfold visB at h
  split at h <;> first | exact .inl rfl | exact .inr (.inl rfl) | exact .inr (.inr rfl) | cases h
theorem gl_of {o : Option NameKind} (h : glB o = true) : o = some .globalImplicit := by
  unfold glB at h
  split at h <;> first | rfl | cases h
theorem Good.gl (gd : Good T k g X c ex S0 H0) {x : Str} (h : glB (c.kd x) = true) : Gl X x := by
  show List.lookup x X.env.scope.names = _
  rw [gd.sc]
  exact gl_of h
theorem s_loc (gd : Good T k g X c ex S0 H0) {i : Nat} {x : Str} {pos : Pos} (h1 : c.N[i]? = some x) (h2 : visB (c.kd x) = true) (h3 : (x == dbg) = false) (h4 : (x == cdt) = false) :
    PE X (.Name x pos) (RE g S0 H0 fun ρ S Q => ∃ d, ρ[i]? = some (some d) ∧ Q d S) := by
  have hv : Vis X.env.scope x := by rw [gd.sc]; exact vis_of h2
  exact (pe_var (by rw [gd.N]; exact h1) hv h3 h4).imp fun σ H Q ⟨ρ, S, Qd, r, ⟨d, e, q⟩, kk⟩ => let ⟨v, e', rd⟩ := r.sl i d e; ⟨v, e', kk.here r.rs rd q⟩
theorem s_const {d : D} {cst : Const} {j : Nat} {pos : Pos} (h : mC d cst = true) : PE X (.Constant cst j pos) (RE g S0 H0 fun _ S Q => Q d S) := by
  have fin : ∀ v, (∀ S H, RD g S H d v) → ∀ σ H Q, RE g S0 H0 (fun _ S Q => Q d S) σ H Q → tC v σ H Q := fun v rd σ H Q ⟨ρ, S, Qd, r, q, kk⟩ => kk.here r.rs (rd S H) q
  unfold mC at h
  split at h
  · exact pe_non.imp (fin .non fun _ _ => rd_non)
  · rw [beq_iff_eq] at h; subst h
    exact pe_bl.imp (fin _ fun _ _ => rd_bl)
  · rw [beq_iff_eq] at h; subst h
    exact pe_int.imp (fin _ fun _ _ => rd_int)
  · rw [Bool.and_eq_true, decide_eq_true_eq, List.all_eq_true] at h
    obtain ⟨h1, h2⟩ := h
    subst h1
    exact pe_str.imp (fin _ fun _ _ => rd_str fun c hc => by simpa using h2 c hc)
  · cases h
theorem s_glob (gd : Good T k g X c ex S0 H0) {x : Str} {pos : Pos} (h2 : glB (c.kd x) = true) (h3 : (x == dbg) = false) : PE X (.Name x pos) (RE g S0 H0 fun _ S Q => ∃ d, T.con x = some d ∧ Q d S) := by
  refine ⟨fun pins s σ H Q I h => ?_⟩
  obtain ⟨ρ, S, Qd, r, ⟨d, e, q⟩, kk⟩ := h
  obtain ⟨v, u, hm, rv, rd⟩ := gd.ge.con x d e
  exact (pe_glob (gd.gl h2) (by rw [gd.gm]; exact hm) rv h3).run pins s σ H Q I (kk.here r.rs (rd g.B S H) q)
theorem re_two {wa wb : Sl → Sto → QV → Prop} {o : D → D → Sto → QV → Prop} {σ : L2.St} {H : Hp} {Q : VK} (h : RE g S0 H0 (fun ρ S Q => wa ρ S fun x S1 => wb ρ S1 fun y S2 => o x y S2 Q) σ H Q) :
    tOp (R2d g o) (RE g S0 H0 wa) (RE g S0 H0 wb) σ H Q := by
  obtain ⟨ρ, S, Qd, r, h, kk⟩ := h
  exact ⟨ρ, S, _, r, h, fun x d1 S1 H1 rd1 rs1 st1 q1 => ⟨ρ, S1, _, r.step rs1 st1, q1, fun y d2 S2 H2 rd2 rs2 st2 q2 => ⟨d1, d2, S2, Qd, rd1.mono st2, rd2, rs2, q2, kk.from (st1.trans st2)⟩⟩⟩
theorem s_bin {wa wb : Sl → Sto → QV → Prop} (gd : Good T k g X c ex S0 H0) {a b : Expr} {op : Operator} {pos : Pos} (ha : PE X a (RE g S0 H0 wa)) (hb : PE X b (RE g S0 H0 wb)) :
    PE X (.BinOp a op b pos) (RE g S0 H0 fun ρ S Q => wa ρ S fun x S1 => wb ρ S1 fun y S2 => opS op x y S2 Q) := (pe_op (op_sound gd.gK op) ha hb).imp fun _ _ _ h => re_two h
theorem s_neg {wa : Sl → Sto → QV → Prop} {a : Expr} {pos : Pos} (ha : PE X a (RE g S0 H0 wa)) :
    PE X (.UnaryOp .USub a pos) (RE g S0 H0 fun ρ S Q => wa ρ S fun x S1 => match x with | .int i => Q (.int (-i)) S1 | _ => False) := by
  refine (pe_un un_neg ha).imp fun σ H Q h => ?_
  obtain ⟨ρ, S, Qd, r, h, kk⟩ := h
  refine ⟨ρ, S, _, r, h, fun x d1 S1 H1 rd1 rs1 st1 q1 => ?_⟩
  split at q1
  · exact ⟨_, rd1.ofInt, (kk.from st1).here rs1 rd_int q1⟩
  · exact q1.elim
theorem units64 (gd : Good T k g X c ex S0 H0) : X.A.units + 64 < cLine := by have := gd.room.un; omega
theorem s_cmp {wa wb : Sl → Sto → QV → Prop} (gd : Good T k g X c ex S0 H0) {a b : Expr} {op : CmpOp} {pos : Pos} (ha : PE X a (RE g S0 H0 wa)) (hb : PE X b (RE g S0 H0 wb)) (hm : behindInMarks op b = false) :
    PE X (.Compare a [op] [b] pos) (RE g S0 H0 fun ρ S Q => wa ρ S fun x S1 => wb ρ S1 fun y S2 => cmpS op x y S2 Q) := (pe_cmpR (cmp_sound gd.gK (units64 gd) op) ha hb hm).imp fun _ _ _ h => re_two h
theorem s_cmpT {wa wb : Sl → Sto → QV → Prop} (gd : Good T k g X c ex S0 H0) {a b : Expr} {op : CmpOp} {pos : Pos} (ha : PE X a (RE g S0 H0 wa)) (hb : PE X b (RE g S0 H0 wb)) (hm : behindInMarks op b = false) :
    PT X (.Compare a [op] [b] pos) (RT g S0 H0 (mkV fun ρ S Q => wa ρ S fun x S1 => wb ρ S1 fun y S2 => cmpS op x y S2 Q).t) := by
  refine (pt_cmpR (cmp_sound gd.gK (units64 gd) op) ha hb hm).imp fun σ H Q h => ?_
  obtain ⟨ρ, S, Qd, r, h, kk⟩ := h
  refine ⟨ρ, S, _, r, h, fun x d1 S1 H1 rd1 rs1 st1 q1 => ⟨ρ, S1, _, r.step rs1 st1, q1, fun y d2 S2 H2 rd2 rs2 st2 q2 => ⟨d1, d2, S2, _, rd1.mono st2, rd2, rs2, cmpS_bl q2, ?_⟩⟩⟩
  rintro v d S3 H3 rd3 rs3 st3 ⟨⟨b, rfl⟩, b', hb', q3⟩
  rw [rd3.ofBl]
  cases hb'
  exact ⟨_, rfl, kk _ S3 H3 rs3 ((st1.trans st2).trans st3) q3⟩
theorem s_cmp2 {wa wb wc : Sl → Sto → QV → Prop} (gd : Good T k g X c ex S0 H0) {a b d : Expr} {op op' : CmpOp} {pos : Pos} (ha : PE X a (RE g S0 H0 wa)) (hb : PE X b (RE g S0 H0 wb)) (hd : PE X d (RE g S0 H0 wc)) (hm : lastMarks [op, op'] [b, d] = false) :
    PE X (.Compare a [op, op'] [b, d] pos) (RE g S0 H0 fun ρ S Q => wa ρ S fun x S1 => wb ρ S1 fun y S2 => cmpS op x y S2 fun z S3 => ∃ k, z = .bl k ∧ if k = true then wc ρ S3 fun u S4 => cmpS op' y u S4 Q else Q (.bl false) S3) := by
  refine (pe_chain (cmp_sound gd.gK (units64 gd) op) (cmp_sound gd.gK (units64 gd) op') ha hb hd hm).imp fun σ H Q h => ?_
  obtain ⟨ρ, S, Qd, r, h, kk⟩ := h
  refine ⟨ρ, S, _, r, h, fun x d1 S1 H1 rd1 rs1 st1 q1 => ⟨ρ, S1, _, r.step rs1 st1, q1, fun y d2 S2 H2 rd2 rs2 st2 q2 => ⟨d1, d2, S2, _, rd1.mono st2, rd2, rs2, q2, ?_⟩⟩⟩
  rintro v z S3 H3 rd3 rs3 st3 ⟨b, rfl, q3⟩
  refine ⟨b, rd3.ofBl, ?_⟩
  cases b with
  | true => exact ⟨ρ, S3, _, ((r.step rs1 st1).step rs2 st2).step rs3 st3, q3, fun u d4 S4 H4 rd4 rs4 st4 q4 => ⟨d2, d4, S4, Qd, (rd2.mono st3).mono st4, rd4, rs4, q4, kk.from (((st1.trans st2).trans st3).trans st4)⟩⟩
  | false => exact (kk.from ((st1.trans st2).trans st3)).here rs3 rd_bl q3
theorem s_cmp2T {wa wb wc : Sl → Sto → QV → Prop} (gd : Good T k g X c ex S0 H0) {a b d : Expr} {op op' : CmpOp} {pos : Pos} (ha : PE X a (RE g S0 H0 wa)) (hb : PE X b (RE g S0 H0 wb)) (hd : PE X d (RE g S0 H0 wc)) (hm : lastMarks [op, op'] [b, d] = false) :
    PT X (.Compare a [op, op'] [b, d] pos) (RT g S0 H0 (mkV fun ρ S Q => wa ρ S fun x S1 => wb ρ S1 fun y S2 => cmpS op x y S2 fun z S3 => ∃ k, z = .bl k ∧ if k = true then wc ρ S3 fun u S4 => cmpS op' y u S4 Q else Q (.bl false) S3).t) := by
  refine (pt_chain (cmp_sound gd.gK (units64 gd) op) (cmp_sound gd.gK (units64 gd) op') ha hb hd hm).imp fun σ H Q h => ?_
  obtain ⟨ρ, S, Qd, r, h, kk⟩ := h
  refine ⟨ρ, S, _, r, h, fun x d1 S1 H1 rd1 rs1 st1 q1 => ⟨ρ, S1, _, r.step rs1 st1, q1, fun y d2 S2 H2 rd2 rs2 st2 q2 => ⟨d1, d2, S2, _, rd1.mono st2, rd2, rs2, q2, ?_⟩⟩⟩
  rintro v z S3 H3 rd3 rs3 st3 ⟨b, rfl, q3⟩
  refine ⟨b, rd3.ofBl, ?_⟩
  cases b with
  | true =>
    refine ⟨ρ, S3, _, ((r.step rs1 st1).step rs2 st2).step rs3 st3, q3, fun u d4 S4 H4 rd4 rs4 st4 q4 => ⟨d2, d4, S4, _, (rd2.mono st3).mono st4, rd4, rs4, cmpS_bl q4, ?_⟩⟩
    rintro v5 d5 S5 H5 rd5 rs5 st5 ⟨⟨b5, rfl⟩, b', hb', q5⟩
    rw [rd5.ofBl]
    cases hb'
    exact ⟨_, rfl, kk _ S5 H5 rs5 ((((st1.trans st2).trans st3).trans st4).trans st5) q5⟩
  | false =>
    obtain ⟨b', hb', q4⟩ := q3
    cases hb'
    exact ⟨_, rfl, kk _ S3 H3 rs3 ((st1.trans st2).trans st3) q4⟩
/-! ### truth -/
theorem tru_V {d : D} {v : V} {S : Sto} {H : Hp} {b : Bool} (rs : RS g S H) (r : RD g S H d v) (h : truD S d = some b) : TruV g.K v H b := by
  have seq : ∀ xs, seqOf S d = some xs → b = !xs.isEmpty → TruV g.K v H b := fun xs e hb => by
    obtain ⟨p, vs, rfl, sq, r'⟩ := r.seq rs e
    have : (!xs.isEmpty) = !vs.isEmpty := by
      have := r'.length
      cases xs <;> cases vs <;> simp_all
    rcases sq with sq | sq
    · exact .inl ⟨vs, sq, hb.trans this⟩
    · exact .inr (.inl ⟨vs, sq, hb.trans this⟩)
  cases d with
  | non => rw [r.ofNon]; cases h; rfl
  | bl b' => rw [r.ofBl]; cases h; rfl
  | int i => rw [r.ofInt]; cases h; rfl
  | str s =>
    rw [r.ofStr.1]
    simp only [truD] at h
    split at h
    · rename_i hl
      refine ⟨by rw [mkS_len]; exact lim_size hl, ?_⟩
      have e := (Option.some.inj h).symm
      rw [e, mkS_len]
      cases s <;> simp
      intro z; omega
    · cases h
  | tup xs => simp only [truD, seqOf, Option.map_some, Option.some.injEq] at h; exact seq xs rfl h.symm
  | lst xs => simp only [truD, seqOf, Option.map_some, Option.some.injEq] at h; exact seq xs rfl h.symm
  | lsk xs => simp only [truD, seqOf, Option.map_some, Option.some.injEq] at h; exact seq xs rfl h.symm
  | obj a =>
    simp only [truD] at h
    cases e : seqOf S (.obj a) with
    | none => rw [e] at h; cases h
    | some xs => rw [e] at h; exact seq xs e (Option.some.inj h).symm
  | ty n => cases h
  | gl x => cases h
  | ins _ _ _ => cases h
  | dct _ _ => cases h
  | exn _ _ _ => cases h
theorem s_truth (gd : Good T k g X c ex S0 H0) {w : Sl → Sto → QV → Prop} {a : Expr} (ha : PE X a (RE g S0 H0 w)) (hw : ∀ whole : Sem Value, PySem.isTrue a X.env whole = do let v ← whole; standAt a.pos; holding [v] (truthy v)) :
    PT X a (RT g S0 H0 (mkV w).t) := by
  refine (pt_truth ha hw).imp fun σ H Q h => ?_
  obtain ⟨ρ, S, Qd, r, h, kk⟩ := h
  refine ⟨ρ, S, _, r, h, fun x d1 S1 H1 rd1 rs1 st1 ⟨b, hb, q1⟩ => ⟨b, gd.gK ▸ tru_V rs1 rd1 hb, kk b S1 H1 rs1 st1 q1⟩⟩
theorem s_not (gd : Good T k g X c ex S0 H0) {w : Sl → Sto → QV → Prop} {a : Expr} {pos : Pos} (ha : PE X a (RE g S0 H0 w)) :
    PE X (.UnaryOp .Not a pos) (RE g S0 H0 fun ρ S Q => w ρ S fun d S1 => ∃ b, truD S1 d = some b ∧ Q (.bl (!b)) S1) := by
  refine (pe_notT ha).imp fun σ H Q h => ?_
  obtain ⟨ρ, S, Qd, r, h, kk⟩ := h
  exact ⟨ρ, S, _, r, h, fun x d1 S1 H1 rd1 rs1 st1 ⟨b, hb, q1⟩ => ⟨b, gd.gK ▸ tru_V rs1 rd1 hb, (kk.from st1).here rs1 rd_bl q1⟩⟩
theorem s_notT {w : Sl → Sto → (Bool → Sto → Prop) → Prop} {a : Expr} {pos : Pos} (ha : PT X a (RT g S0 H0 w)) :
    PT X (.UnaryOp .Not a pos) (RT g S0 H0 fun ρ S Q => w ρ S fun b S1 => Q (!b) S1) := by
  refine (pt_not ha).imp fun σ H Q h => ?_
  obtain ⟨ρ, S, Qd, r, h, kk⟩ := h
  exact ⟨ρ, S, _, r, h, fun b S1 H1 rs1 st1 q1 => kk _ S1 H1 rs1 st1 q1⟩
theorem s_ite {wt : Sl → Sto → (Bool → Sto → Prop) → Prop} {wa wb : Sl → Sto → QV → Prop} {t a b : Expr} {pos : Pos} (ht : PT X t (RT g S0 H0 wt)) (ha : PE X a (RE g S0 H0 wa)) (hb : PE X b (RE g S0 H0 wb)) :
    PE X (.IfExp t a b pos) (RE g S0 H0 fun ρ S Q => wt ρ S fun k S1 => if k = true then wa ρ S1 Q else wb ρ S1 Q) := by
  refine (pe_ifExp ht ha hb).imp fun σ H Q h => ?_
  obtain ⟨ρ, S, Qd, r, h, kk⟩ := h
  refine ⟨ρ, S, _, r, h, fun b S1 H1 rs1 st1 q1 => ?_⟩
  cases b with
  | true => exact ⟨ρ, S1, Qd, r.step rs1 st1, q1, kk.from st1⟩
  | false => exact ⟨ρ, S1, Qd, r.step rs1 st1, q1, kk.from st1⟩
/-! ### arguments -/
theorem star_cons {e : Expr} {es : List Expr} {env : Env} (h : noStar e = true) : starEach (e :: es) env = (false, eval e env) :: starEach es env := by
  cases e <;> first | rfl | cases h
theorem s_nil : PA X [] (RA g S0 H0 fun _ S Q => Q [] S) := pa_nil.imp fun σ H Q ⟨ρ, S, Qd, r, h, kk⟩ => kk [] [] S H RDs.nil r.rs (Step.refl S H) h
theorem s_cons {w : Sl → Sto → QV → Prop} {ws : Sl → Sto → (List D → Sto → Prop) → Prop} {e : Expr} {es : List Expr} (he : PE X e (RE g S0 H0 w)) (hes : PA X es (RA g S0 H0 ws)) (hn : noStar e = true) :
    PA X (e :: es) (RA g S0 H0 fun ρ S Q => w ρ S fun d S1 => ws ρ S1 fun ds S2 => Q (d :: ds) S2) := by
  refine (pa_cons he hes (star_cons hn)).imp fun σ H Q h => ?_
  obtain ⟨ρ, S, Qd, r, h, kk⟩ := h
  exact ⟨ρ, S, _, r, h, fun x d S1 H1 rd1 rs1 st1 q1 => ⟨ρ, S1, _, r.step rs1 st1, q1, fun vs ds S2 H2 rd2 rs2 st2 q2 => kk _ _ S2 H2 (RDs.cons (rd1.mono st2) rd2) rs2 (st1.trans st2) q2⟩⟩
end
end G
/-! G9: calls, objects, items, displays. -/
namespace G
open PySem L2
section
variable {T : Tab} {k : Nat} {g : Gx} {X : Cx} {c : Sc} {ex : QE} {S0 : Sto} {H0 : Hp}
theorem star_any {pos : Pos} {env : Env} : ∀ {es : List Expr}, es.all noStar = true → (backTo pos (starEach es env)).any (·.1) = false
  | [], _ => rfl
  | e :: es, h => by
    rw [List.all_cons, Bool.and_eq_true] at h
    rw [star_cons h.1]
    show (false || _) = false
    rw [Bool.false_or]
    exact star_any h.2
theorem contX_of {S S1 : Sto} {H H1 : Hp} {xd : QX} (st : Step S H S1 H1) : ContX g S1 H1 xd (EX g xd S H) := fun e c dd S' H' rx rs' st' q => ⟨e, S', rx, rs', st.trans st', q⟩
theorem s_call (gd : Good T k g X c ex S0 H0) {f : Str} (hh : T.hot f = false → c.hot = false) (hq : c.hot = true → c.deep = false) {es : List Expr} {df : List D} {ws : Sl → Sto → (List D → Sto → Prop) → Prop} {p pos : Pos} (hg : glB (c.kd f) = true) (hd : (f == dbg) = false) (ha : PA X es (RA g S0 H0 ws)) (hn : es.all noStar = true)
    (h0 : es = [] → ws = fun _ S Q => Q [] S) :
    PE X (.Call (.Name f p) es [] pos) (RE g S0 H0 fun ρ S Q => T.dfs f df ∧ ∃ φ, T.fn f = some φ ∧ ws ρ S fun ds S1 => φ (ds ++ df) S1 Q (ex ρ)) := by
  obtain ⟨K, mg, B⟩ := g
  have e1 : X.K = K := gd.gK
  have e2 : X.mg = mg := gd.gm
  subst e1 e2
  refine ⟨fun pins s σ H Q I h => ?_⟩
  obtain ⟨ρ, S, Qd, r, ⟨hdf, φ, hφ, h⟩, kk⟩ := h
  obtain ⟨a, fd, ps, hm, kp, F, hb, _⟩ := gd.ge.fns f φ hφ
  obtain ⟨dvs, us, b, vv, rdf⟩ := hb df hdf
  have rm := (gd.room.mono (Nat.le_succ k)).cast hh
  cases es with
  | nil =>
    rw [h0 rfl] at h
    refine wpAny_Call_Name_kw (ld_glob I (gd.gl hg) hm ?_ hd)
    have q : spOf X.K X.mg φ ([] ++ dvs) H Q (EX ⟨X.K, X.mg, B⟩ (ex ρ) S H) := ⟨B, [] ++ df, S, Qd, ex ρ, rdf B S H, r.rs, h, kk, contX_of (Step.refl S H)⟩
    have hl : ([] ++ us).length = ps.length := by rw [← F.many _ _ _ _ q, List.nil_append, List.nil_append]; exact vv.length.symm
    exact PySem.W.callWith_K0 I.kIn kp (run_g (args := ⟨[], []⟩) F gd.gds rm (fun _ => gd.hots hq r) (b s [] I.kIn hl) (gd.pass r) I vv q)
  | cons e es =>
    rw [List.all_cons, Bool.and_eq_true] at hn
    refine wpAny_Call_Name_kw (ld_glob I (gd.gl hg) hm ?_ hd)
    have q0 : RA ⟨X.K, X.mg, B⟩ S0 H0 ws σ H fun vs H1 => HotS X.A H1 ∧ spOf X.K X.mg φ (vs ++ dvs) H1 Q (EX ⟨X.K, X.mg, B⟩ (ex ρ) S H) :=
      ⟨ρ, S, _, r, h, fun vs ds S1 H1 rds rs1 st1 q1 => ⟨gd.hots hq (r.step rs1 st1), B, ds ++ df, S1, Qd, ex ρ, rds.append (rdf B S1 H1), rs1, q1, kk.from st1, contX_of st1⟩⟩
    refine PySem.W.callWith_K (h₀ := X.base) I.ok.mod.kin kp (thn (ha.run pos pins s σ H _ I q0) fun as s1 ⟨vs, H1, I1, rv, hs1, q⟩ => ⟨I1.kIn, ?_⟩) (star_cons hn.1) (star_any hn.2)
    have r2 := rv.append vv
    have hl : (as ++ us).length = ps.length := by rw [← r2.length]; exact F.many _ _ _ _ q
    exact run_g (args := ⟨as, []⟩) F gd.gds rm (fun _ => hs1) (b s1 as I1.kIn hl) (gd.pass r) I1 r2 q
theorem RD.sub {g : Gx} {S S' : Sto} {H : Hp} (h : Sub S' S) {d : D} {v : V} (r : RD g S H d v) : RD g S' H d v := by
  have : Step S H S' H := fun a o ha hs => ⟨ha, by
    cases e : S' a with
    | none => rfl
    | some o' => rw [h a o' e] at hs; cases hs⟩
  exact r.mono this
theorem RS.sub {g : Gx} {S S' : Sto} {H : Hp} (h : Sub S' S) (rs : RS g S H) : RS g S' H := by
  have nn : ∀ a, S a = none → S' a = none := fun a hs => by
    cases e : S' a with
    | none => rfl
    | some o' => rw [h a o' e] at hs; cases hs
  have st : Step S H S' H := fun a o ha hs => ⟨ha, nn a hs⟩
  refine ⟨fun a x hx => ?_, fun b hb => ⟨nn b (rs.2 b hb).1, (rs.2 b hb).2⟩⟩
  obtain ⟨nb, q⟩ := rs.1 a x (h a x hx)
  refine ⟨nb, ?_⟩
  cases x with
  | lst xs => obtain ⟨vs, h1, r⟩ := q; exact ⟨vs, h1, r.mono st⟩
  | ins C fs => obtain ⟨c, dx, gs, m, h1, k1, o1, r⟩ := q; exact ⟨c, dx, gs, m, h1, ⟨nn _ k1.1, k1.2⟩, o1, r.mono st⟩
  | dct kvs => obtain ⟨gs, h1, r⟩ := q; exact ⟨gs, h1, r.mono st⟩
theorem Sub.del (S : Sto) (a : Addr) : Sub (S.del a) S := fun b o e => by
  unfold Sto.del at e
  split at e
  · cases e
  · exact e
theorem Step.sub {S S' : Sto} {H : Hp} (h : Sub S' S) : Step S H S' H := fun a o ha hs => ⟨ha, by
  cases e : S' a with
  | none => rfl
  | some o' => rw [h a o' e] at hs; cases hs⟩
theorem RFs.names : ∀ {S : Sto} {H : Hp} {fs : List (Str × D)} {gs : List (Str × V)}, RFs g S H fs gs → gs = (fs.map (·.1)).zip (gs.map (·.2)) ∧ RDs g S H (fs.map (·.2)) (gs.map (·.2))
  | S, H, [], gs, h => by
    have e : gs = [] := h
    subst e
    exact ⟨rfl, RDs.nil⟩
  | S, H, (x, d) :: fs, gs, ⟨v, r, e, h1, h2⟩ => by
    subst e
    obtain ⟨i1, i2⟩ := RFs.names h2
    refine ⟨?_, RDs.cons h1 i2⟩
    exact congrArg ((x, v) :: ·) i1
theorem freeze {S : Sto} {H : Hp} (rs : RS g S H) {a : Addr} {C : Str} {fs : List (Str × D)} (h : S a = some (.ins C fs)) : RD g (S.del a) H (.ins C (fs.map (·.1)) (fs.map (·.2))) (.ref a) := by
  obtain ⟨nb, c, dx, gs, m, ha, kd, od, rf⟩ := rs.1 a _ h
  have st : Step S H (S.del a) H := Step.sub (Sub.del S a)
  obtain ⟨e, rd⟩ := RFs.names rf
  unfold RD
  refine ⟨a, c, dx, gs.map (·.2), rfl, ⟨by unfold Sto.del; rw [if_pos rfl], nb, by rw [← e]; exact ha⟩, ⟨(st dx _ od kd.1).2, kd.2, od⟩, m, by rw [List.length_map, List.length_map], rd.mono st⟩
theorem new_ins {S : Sto} {H : Hp} (rs : RS g S H) {C : Str} {c x dx : Addr} (hm : g.mg C = some (.ref c)) (hx : H x = none) (hdx : H dx = none) (ne : dx ≠ x) :
    RS g (S.set x (.ins C [])) (upd (upd H dx (.own x)) x (.ins c dx [])) ∧ Step S H (S.set x (.ins C [])) (upd (upd H dx (.own x)) x (.ins c dx [])) := by
  obtain ⟨rs1, st1⟩ := rs.frozen (o := .own x) hdx
  have hx1 : upd H dx (.own x) x = none := by rw [upd_ne ne.symm]; exact hx
  have st2 : Step S (upd H dx (.own x)) (S.set x (.ins C [])) (upd (upd H dx (.own x)) x (.ins c dx [])) := Step.write (.inr hx1)
  refine ⟨rs1.write (.inr hx1) st2 ⟨c, dx, [], hm, upd_same, ⟨?_, rs.fresh hdx⟩, ?_, rfl⟩ (fun b e => by rw [hx1] at e; cases e), st1.trans st2⟩
  · rw [Sto.set_ne ne]; exact rs.free hdx
  · rw [upd_ne ne, upd_same]
theorem s_make (gd : Good T k g X c ex S0 H0) (hh : c.hot = false) {fz : Bool} {C : Str} {es : List Expr} {df : List D} {ws : Sl → Sto → (List D → Sto → Prop) → Prop} {p pos : Pos} (hg : glB (c.kd C) = true) (hd : (C == dbg) = false) (ha : PA X es (RA g S0 H0 ws)) (hn : es.all noStar = true)
    (h0 : es = [] → ws = fun _ S Q => Q [] S) :
    PE X (.Call (.Name C p) es [] pos) (RE g S0 H0 fun ρ S Q => T.dfs C df ∧ ∃ φ, T.me C ini = some φ ∧ ws ρ S fun ds S1 => ∀ a, S1 a = none → φ (.obj a :: (ds ++ df)) (S1.set a (.ins C [])) (fun d S2 => d = .non ∧ frz fz a C S2 Q) (ex ρ)) := by
  obtain ⟨K, mg, B⟩ := g
  have e1 : X.K = K := gd.gK
  have e2 : X.mg = mg := gd.gm
  subst e1 e2
  refine ⟨fun pins s σ H Q I h => ?_⟩
  obtain ⟨ρ, S, Qd, r, ⟨hdf, φ, hφ, h⟩, kk⟩ := h
  obtain ⟨cc, a, fd, ps, hm, mk, F, hb⟩ := gd.ge.mks C φ hφ
  obtain ⟨dvs, us, b, vv, rdf⟩ := hb df hdf
  have fin : ∀ S1 H1 ds vs, RDs ⟨X.K, X.mg, B⟩ S1 H1 ds vs → RS ⟨X.K, X.mg, B⟩ S1 H1 → Step S H S1 H1 → (∀ a, S1 a = none → φ (.obj a :: (ds ++ df)) (S1.set a (.ins C [])) (fun d S2 => d = .non ∧ frz fz a C S2 Qd) (ex ρ)) →
      ∀ x dx, H1 x = none → H1 dx = none → dx ≠ x → spOf X.K X.mg φ (V.ref x :: (vs ++ dvs)) (upd (upd H1 dx (.own x)) x (.ins cc dx [])) (fun v H2 => v = V.non ∧ Q (V.ref x) H2) (EX ⟨X.K, X.mg, B⟩ (ex ρ) S H) := by
    intro S1 H1 ds vs rds rs1 st1 q x dx hx hdx ne
    obtain ⟨rs2, st2⟩ := new_ins rs1 hm hx hdx ne
    refine ⟨B, .obj x :: (ds ++ df), S1.set x (.ins C []), _, ex ρ, RDs.cons rd_obj ((rds.mono st2).append (rdf B _ _)), rs2, q x (rs1.free hx), ?_, contX_of (st1.trans st2)⟩
    rintro v d S3 H3 rd rs3 st3 ⟨rfl, q3⟩
    refine ⟨rd.ofNon, ?_⟩
    unfold frz at q3
    split at q3
    · obtain ⟨fs, hfs, q3⟩ := q3
      exact kk _ _ _ H3 (freeze rs3 hfs) (rs3.sub (Sub.del S3 x)) (((st1.trans st2).trans st3).trans (Step.sub (Sub.del S3 x))) q3
    · exact kk _ _ S3 H3 rd_obj rs3 ((st1.trans st2).trans st3) q3
  cases es with
  | nil =>
    rw [h0 rfl] at h
    refine wpAny_Call_Name_kw (ld_glob I (gd.gl hg) hm ?_ hd)
    exact PySem.W.callWith_K0 I.kIn mk.kp (make_g (us := []) mk F gd.gds (gd.room.cast fun _ => hh) rfl b vv (gd.pass r) I .nil (fin S H [] [] RDs.nil r.rs (Step.refl S H) h))
  | cons e es =>
    rw [List.all_cons, Bool.and_eq_true] at hn
    refine wpAny_Call_Name_kw (ld_glob I (gd.gl hg) hm ?_ hd)
    have q0 : RA ⟨X.K, X.mg, B⟩ S0 H0 ws σ H fun vs H1 => ∀ x dx, H1 x = none → H1 dx = none → dx ≠ x → spOf X.K X.mg φ (V.ref x :: (vs ++ dvs)) (upd (upd H1 dx (.own x)) x (.ins cc dx [])) (fun v H2 => v = V.non ∧ Q (V.ref x) H2) (EX ⟨X.K, X.mg, B⟩ (ex ρ) S H) :=
      ⟨ρ, S, _, r, h, fun vs ds S1 H1 rds rs1 st1 q1 => fin S1 H1 ds vs rds rs1 st1 q1⟩
    exact PySem.W.callWith_K (h₀ := X.base) I.ok.mod.kin mk.kp (thn (ha.run pos pins s σ H _ I q0) fun as s1 ⟨vs, H1, I1, rv, q⟩ => ⟨I1.kIn, make_g mk F gd.gds (gd.room.cast fun _ => hh) rfl b vv (gd.pass r) I1 rv q⟩) (star_cons hn.1) (star_any hn.2)
/-! ### built-ins -/
theorem boot_bi (b : Bi) : bootBuiltins b.nm = some b.val := by cases b <;> decide +kernel
theorem nm_bi (b : Bi) : b.nm ≠ "__name__" ∧ (b.nm == Str.ofString "__debug__") = false := by cases b <;> decide +kernel
theorem in_bi (b : Bi) : b.nm ∈ (["len", "all", "any", "abs", "max", "min", "int", "str", "tuple", "list", "divmod", "isinstance", "range", "enumerate", "zip", "bool", "dict", "sorted", "set", "repr", "sum", "reversed"] : List Str) := by cases b <;> decide +kernel
theorem s_bi (gd : Good T k g X c ex S0 H0) {fz : Bool} {b : Bi} (hh : b.cool = false → c.hot = false) {e : Expr} {es : List Expr} {ws : Sl → Sto → (List D → Sto → Prop) → Prop} {p pos : Pos} (hg : glB (c.kd b.nm) = true) (ha : PA X (e :: es) (RA g S0 H0 ws)) (hn : (e :: es).all noStar = true) :
    PE X (.Call (.Name b.nm p) (e :: es) [] pos) (RE g S0 H0 fun ρ S Q => ws ρ S fun ds S1 => biS fz b ds S1 Q) := by
  rw [List.all_cons, Bool.and_eq_true] at hn
  have key : PE X (.Call (.Name b.nm p) (e :: es) [] pos) (tCB (RCd g (biS fz b)) (RA g S0 H0 ws)) := by
    have hs := bi_sound (X := X) (g := g) (b := b) gd.gK (fun z => gd.calm (hh z)) gd.gds (by have := gd.room.un; omega) fz
    have hb := boot_bi b
    have hm : X.mg b.nm = none := by rw [gd.gm]; exact gd.ge.blt _ (in_bi b)
    have h1 := (nm_bi b).1
    have h2 := (nm_bi b).2
    have hgl := gd.gl hg
    cases b
    case int => exact pe_callTy hs hgl hm hb ha h1 h2 (star_cons hn.1) (star_any hn.2)
    case str => exact pe_callTy hs hgl hm hb ha h1 h2 (star_cons hn.1) (star_any hn.2)
    case tuple => exact pe_callTy hs hgl hm hb ha h1 h2 (star_cons hn.1) (star_any hn.2)
    case list => exact pe_callTy hs hgl hm hb ha h1 h2 (star_cons hn.1) (star_any hn.2)
    case bool => exact pe_callTy hs hgl hm hb ha h1 h2 (star_cons hn.1) (star_any hn.2)
    all_goals exact pe_callB hs hgl hm hb ha h1 h2 (star_cons hn.1) (star_any hn.2)
  refine key.imp fun σ H Q h => ?_
  obtain ⟨ρ, S, Qd, r, h, kk⟩ := h
  exact ⟨ρ, S, _, r, h, fun vs ds S1 H1 rds rs1 st1 q1 => ⟨ds, S1, Qd, rds, rs1, q1, kk.from st1⟩⟩
/-! ### kinds -/
theorem ty_X {S : Sto} {H : Hp} {d : D} {v : V} {kd : Kd} {kv : Value} (rs : RS g S H) (rd : RD g S H d v) (h : kindOf S d = some kd) (hv : kdV g.mg kd kv) (hi : ∀ C c, kd = .o C → g.mg C = some (.ref c) → InsTy g.K c) : TyX g.K H v kv := by
  cases d with
  | non => cases h; cases hv; rw [rd.ofNon]; exact .base .non
  | bl b => cases h; cases hv; rw [rd.ofBl]; exact .base (.bl b)
  | int i => cases h; cases hv; rw [rd.ofInt]; exact .base (.int i)
  | str s => cases h; cases hv; rw [rd.ofStr.1]; exact .base (.str _)
  | tup xs =>
    cases h; cases hv
    unfold RD at rd
    obtain ⟨a, vs, rfl, q, _⟩ := rd
    rcases q with ⟨_, _, q | ⟨o, q⟩⟩ | ⟨o, its, n, q1, q2, _⟩
    · exact .base (.tup q)
    · exact .fTuple q
    · exact .kTuple q1 q2
  | lst xs =>
    cases h; cases hv
    unfold RD at rd
    obtain ⟨a, vs, rfl, _, _, q, _⟩ := rd
    rcases q with q | ⟨o, q⟩
    · exact .base (.lst q)
    · exact .base (.frz q)
  | obj a =>
    rw [rd.ofObj]
    simp only [kindOf] at h
    split at h
    · rename_i xs e
      cases h; cases hv
      obtain ⟨vs, q, _⟩ := (rs.1 a _ e).2
      exact .base (.lst q)
    · rename_i xs e
      cases h; cases hv
      obtain ⟨vs, q, _⟩ := (rs.1 a _ e).2
      exact .base (.dK q)
    · rename_i C fs e
      cases h
      obtain ⟨c, hm, rfl⟩ := hv
      obtain ⟨c', dx, gs, hm', q, _⟩ := (rs.1 a _ e).2
      rw [hm] at hm'
      cases hm'
      obtain ⟨i1, i2, i3, i4, i5⟩ := hi C c rfl hm
      exact .base (.ins q i1 i2 i3 i4 i5)
    · cases h
  | lsk xs => cases h
  | ty n => cases h
  | gl x => cases h
  | ins C ns ds =>
    cases h
    obtain ⟨c, hm, rfl⟩ := hv
    unfold RD at rd
    obtain ⟨a, c', dx, vs, rfl, ⟨_, _, q⟩, _, hm', _⟩ := rd
    rw [hm] at hm'
    cases hm'
    obtain ⟨i1, i2, i3, i4, i5⟩ := hi C c rfl hm
    exact .base (.ins q i1 i2 i3 i4 i5)
  | dct ks ds =>
    cases h; cases hv
    unfold RD at rd
    obtain ⟨a, qs, vs, rfl, ⟨_, _, q⟩, _⟩ := rd
    exact .base (.dK q)
  | exn _ _ _ => cases h
theorem boot_ty {n : String} (h : n ∈ biTys) : bootBuiltins (Str.ofString n) = some (.type n) ∧ Str.ofString n ≠ "__name__" ∧ Str.ofString n ∈ (["len", "all", "any", "abs", "max", "min", "int", "str", "tuple", "list", "divmod", "isinstance", "range", "enumerate", "zip", "bool", "dict", "sorted", "set", "repr", "sum", "reversed"] : List Str) := by
  simp only [biTys, List.mem_cons, List.not_mem_nil, or_false] at h
  rcases h with rfl | rfl | rfl | rfl | rfl | rfl <;> decide +kernel
theorem kv_of {S : Sto} {H : Hp} {d : D} {v : V} {kd : Kd} (rs : RS g S H) (rd : RD g S H d v) (h : kindOf S d = some kd) : ∃ kv, kdV g.mg kd kv := by
  cases kd with
  | b n => exact ⟨.type n, rfl⟩
  | o C =>
    have hi : ∃ fs, insOf S d = some (C, fs) := by
      cases d <;> simp only [kindOf, Option.some.injEq, Kd.o.injEq, reduceCtorEq] at h
      case obj a =>
        split at h <;> first | (cases h; done) | (rename_i C' fs e; cases h; exact ⟨fs, by simp only [insOf, e]⟩)
      case ins C' ns vs => subst h; exact ⟨_, rfl⟩
    obtain ⟨fs, hi⟩ := hi
    obtain ⟨a, c, _, _, _, hm, _⟩ := rd.inst rs hi
    exact ⟨.ref c, c, hm, rfl⟩
theorem s_isi (gd : Good T k g X c ex S0 H0) {w : Sl → Sto → QV → Prop} {a : Expr} {y : Str} {t : Kd} {p p2 pos : Pos} (hg : glB (c.kd ("isinstance" : Str)) = true) (hy : glB (c.kd y) = true) (hyd : (y == dbg) = false) (hn : noStar a = true)
    (ht : (match t with | .b n => biTys.contains n && Str.ofString n == y | .o C => C == y) = true) (ha : PE X a (RE g S0 H0 w)) :
    PE X (.Call (.Name "isinstance" p) [a, .Name y p2] [] pos) (RE g S0 H0 fun ρ S Q => tyOk T t ∧ w ρ S fun x S1 => ∃ kd, kindOf S1 x = some kd ∧ kOk kd = true ∧ Q (.bl (isiB kd t)) S1) := by
  have hm : X.mg "isinstance" = none := by rw [gd.gm]; exact gd.ge.blt _ (by decide +kernel)
  have fin : ∀ (v : V), (∀ kv, kdV g.mg t kv → ClsV v kv) → (∃ tv, kdV g.mg t tv) → tOk t = true → PE X (.Name y p2) (tC v) → PE X (.Call (.Name "isinstance" p) [a, .Name y p2] [] pos) (RE g S0 H0 fun ρ S Q => tyOk T t ∧ w ρ S fun x S1 => ∃ kd, kindOf S1 x = some kd ∧ kOk kd = true ∧ Q (.bl (isiB kd t)) S1) := by
    intro v hv htv hto hp
    refine (pe_callB call_isi (gd.gl hg) hm (by decide +kernel) (pa_cons ha (pa_cons hp pa_nil rfl) (star_cons hn)) (by decide) (by decide) (star_cons hn) rfl).imp fun σ H Q h => ?_
    obtain ⟨ρ, S, Qd, r, ⟨_, h⟩, kk⟩ := h
    refine ⟨ρ, S, _, r, h, fun x d S1 H1 rd1 rs1 st1 q1 => ?_⟩
    obtain ⟨kd, hk, hi, q⟩ := q1
    obtain ⟨kv, h1⟩ := kv_of rs1 rd1 hk
    obtain ⟨tv, h2⟩ := htv
    obtain ⟨h3, h4⟩ := gd.ge.isi kd t kv tv hi hto h1 h2
    exact ⟨x, v, kv, tv, _, rfl, hv tv h2, gd.gK ▸ ty_X rs1 rd1 hk h1 h4, gd.gK ▸ h3, (kk.from st1).here rs1 rd_bl q⟩
  cases t with
  | b n =>
    simp only [Bool.and_eq_true, List.contains_iff_mem, beq_iff_eq] at ht
    obtain ⟨h1, rfl⟩ := ht
    obtain ⟨b1, b2, b3⟩ := boot_ty h1
    exact fin (.ty n) (fun kv e => by cases e; exact .ty n) ⟨_, rfl⟩ (List.contains_iff_mem.mpr h1) (pe_bltn (gd.gl hy) (by rw [gd.gm]; exact gd.ge.blt _ b3) b1 rfl b2 hyd)
  | o C =>
    simp only [beq_iff_eq] at ht
    subst ht
    refine ⟨fun pins s σ H Q I h => ?_⟩
    have hc : (∃ cc, g.mg C = some (.ref cc)) ∧ clN.contains C = true := by
      obtain ⟨_, _, _, _, ⟨⟨⟨f, hf⟩, hcl⟩, _⟩, _⟩ := h
      obtain ⟨cc, hc, _⟩ := gd.ge.fld C f hf
      exact ⟨⟨cc, hc⟩, hcl⟩
    obtain ⟨⟨cc, hc⟩, hcl⟩ := hc
    refine (fin (.ref cc) (fun kv e => ?_) ⟨_, cc, hc, rfl⟩ hcl (pe_glob (gd.gl hy) (by rw [gd.gm]; exact hc) rfl hyd)).run pins s σ H Q I h
    obtain ⟨c', e1, rfl⟩ := e
    rw [hc] at e1
    cases e1
    exact .own cc
/-! ### methods of built-in kinds, own methods, attributes -/
theorem nosup {o : Expr} {a : Str} {env : Env} {w : Sem Value} (h : noSup o = true) : attributeBase o a env w = w := by
  unfold attributeBase
  split
  · cases h
  · rfl
theorem star_all {cpos : Pos} {env : Env} : ∀ {es : List Expr}, es.all noStar = true → ((backTo cpos (starEach es env)).all fun x => !x.1) = true
  | [], _ => rfl
  | e :: es, h => by
    rw [List.all_cons, Bool.and_eq_true] at h
    rw [star_cons h.1]
    show (true && _) = true
    rw [Bool.true_and]
    exact star_all h.2
theorem form_ok {es : List Expr} {cpos : Pos} {env : Env} (hn : es.all noStar = true) (hl : es.length < 30) : (((backTo cpos (starEach es env)).all fun x => !x.1) && (backToKw cpos (keywordEach [] env)).all (fun x => x.1.isSome) && decide ((es.length + ([] : List Keyword).length + if ([] : List Keyword).isEmpty = true then 0 else 1) < 30)) = true := by
  rw [star_all hn]
  show (true && true && decide (es.length + 0 + 0 < 30)) = true
  rw [decide_eq_true (by omega)]; rfl
theorem eval_own {o : Expr} {m : Str} {apos pos : Pos} {es : List Expr} {env : Env} (hs : noSup o = true) (hn : es.all noStar = true) (hl : es.length < 30) (hp : (apos.endLine == pos.line) = true) :
    eval (.Call (.Attribute o m apos) es [] pos) env = (do
      let ov ← eval o env
      standAt apos.atName
      let (f, first) ← holding [ov] (getMethod ov m (do return (← importBound o env).getD true))
      callWith pos f first (backTo pos (starEach es env)) (backToKw pos (keywordEach [] env))) := by
  have hf : methodCallForm (es.length + ([] : List Keyword).length) (backTo pos (starEach es env)) (backToKw pos (keywordEach [] env)) = true := form_ok hn hl
  show (do
    let ov ← attributeBase o m env (eval o env)
    standAt apos.atName
    methodCall o m apos pos env ov (es.length + ([] : List Keyword).length) (backTo pos (starEach es env)) (backToKw pos (keywordEach [] env))) = _
  rw [nosup hs]
  unfold methodCall methodCallPos calleeOf
  rw [hf, hp]
  rfl
theorem s_meth (gd : Good T k g X c ex S0 H0) {m : Me} {o e : Expr} {es : List Expr} {w : Sl → Sto → QV → Prop} {ws : Sl → Sto → (List D → Sto → Prop) → Prop} {apos cpos : Pos} (ho : PE X o (RE g S0 H0 w)) (ha : PA X (e :: es) (RA g S0 H0 ws))
    (hn : (e :: es).all noStar = true) (hs : noSup o = true) (hl : (e :: es).length < 30) (hp : (apos.endLine == cpos.line) = true) :
    PE X (.Call (.Attribute o m.nm apos) (e :: es) [] cpos) (RE g S0 H0 fun ρ S Q => w ρ S fun x S1 => meT m x S1 ∧ ws ρ S1 fun ds S2 => meS m x ds S2 Q) := by
  have h2 := form_ok (cpos := cpos) (env := X.env) hn hl
  rw [List.all_cons, Bool.and_eq_true] at hn
  have hms := me_sound (X := X) (g := g) gd.gK (by have := gd.room.un; omega) m
  have key : PE X (.Call (.Attribute o m.nm apos) (e :: es) [] cpos) (tBM X.K m.ty (RMd g (meS m)) (RE g S0 H0 w) (RA g S0 H0 ws)) := by
    cases m with
    | join => exact pe_bm PySem.F.plainAttrs_str PySem.F.slot_str_join PySem.F.type_str_join hms ho ha (nosup hs) h2 hp (star_cons hn.1) (star_any hn.2)
    | append => exact pe_bm PySem.F.plainAttrs_list PySem.F.slot_list_append PySem.F.type_list_append hms ho ha (nosup hs) h2 hp (star_cons hn.1) (star_any hn.2)
    | extend => exact pe_bm PySem.F.plainAttrs_list PySem.F.slot_list_extend PySem.F.type_list_extend hms ho ha (nosup hs) h2 hp (star_cons hn.1) (star_any hn.2)
    | count => exact pe_bm PySem.F.plainAttrs_list PySem.F.slot_list_count PySem.F.type_list_count hms ho ha (nosup hs) h2 hp (star_cons hn.1) (star_any hn.2)
    | index => exact pe_bm PySem.F.plainAttrs_list PySem.F.slot_list_index PySem.F.type_list_index hms ho ha (nosup hs) h2 hp (star_cons hn.1) (star_any hn.2)
    | remove => exact pe_bm PySem.F.plainAttrs_list PySem.F.slot_list_remove PySem.F.type_list_remove hms ho ha (nosup hs) h2 hp (star_cons hn.1) (star_any hn.2)
    | insert => exact pe_bm PySem.F.plainAttrs_list PySem.F.slot_list_insert PySem.F.type_list_insert hms ho ha (nosup hs) h2 hp (star_cons hn.1) (star_any hn.2)
    | popAt => exact pe_bm PySem.F.plainAttrs_list PySem.F.slot_list_pop PySem.F.type_list_pop hms ho ha (nosup hs) h2 hp (star_cons hn.1) (star_any hn.2)
  refine key.imp fun σ H Q h => ?_
  obtain ⟨ρ, S, Qd, r, h, kk⟩ := h
  refine ⟨ρ, S, _, r, h, fun x d S1 H1 rd1 rs1 st1 q1 => ⟨?_, ρ, S1, _, r.step rs1 st1, q1.2, fun vs ds S2 H2 rds rs2 st2 q2 => ⟨d, ds, S2, Qd, rd1.mono st2, rds, rs2, q2, kk.from (st1.trans st2)⟩⟩⟩
  have ht := q1.1
  unfold meT at ht
  split at ht
  · rw [rd1.ofStr.1]; rfl
  · obtain ⟨xs, e⟩ := ht
    obtain ⟨vs, q, _⟩ := (rs1.1 _ _ e).2
    rw [rd1.ofObj]
    exact .inl ⟨rfl, vs, SqL.of q⟩
  · obtain ⟨xs, e⟩ := ht
    obtain ⟨vs, q, _⟩ := (rs1.1 _ _ e).2
    rw [rd1.ofObj]
    exact .inl ⟨rfl, vs, SqL.of q⟩
  · rcases ht with ⟨xs, rfl⟩ | ⟨a, xs, rfl, e⟩
    · obtain ⟨p, ws, rfl, sq, _⟩ := rd1.lst
      exact .inl ⟨rfl, ws, .inl sq⟩
    · obtain ⟨vs, q, _⟩ := (rs1.1 _ _ e).2
      rw [rd1.ofObj]
      exact .inl ⟨rfl, vs, SqL.of q⟩
  · rcases ht with ⟨xs, rfl⟩ | ⟨a, xs, rfl, e⟩
    · obtain ⟨p, ws, rfl, sq, _⟩ := rd1.lst
      exact .inl ⟨rfl, ws, .inl sq⟩
    · obtain ⟨vs, q, _⟩ := (rs1.1 _ _ e).2
      rw [rd1.ofObj]
      exact .inl ⟨rfl, vs, SqL.of q⟩
  · obtain ⟨xs, e⟩ := ht
    obtain ⟨vs, q, _⟩ := (rs1.1 _ _ e).2
    rw [rd1.ofObj]
    exact .inl ⟨rfl, vs, SqL.of q⟩
  · obtain ⟨xs, e⟩ := ht
    obtain ⟨vs, q, _⟩ := (rs1.1 _ _ e).2
    rw [rd1.ofObj]
    exact .inl ⟨rfl, vs, SqL.of q⟩
  · obtain ⟨xs, e⟩ := ht
    obtain ⟨vs, q, _⟩ := (rs1.1 _ _ e).2
    rw [rd1.ofObj]
    exact .inl ⟨rfl, vs, SqL.of q⟩
  · exact ht.elim
theorem RFs.look {S : Sto} {H : Hp} {f : Str} : ∀ {fs : List (Str × D)} {gs : List (Str × V)}, RFs g S H fs gs → (∀ d, fs.lookup f = some d → ∃ v, gs.lookup f = some v ∧ RD g S H d v) ∧ (fs.lookup f = none → gs.lookup f = none)
  | [], gs, h => by
    unfold RFs at h
    subst h
    exact ⟨fun d e => (by cases e), fun _ => rfl⟩
  | (x, d0) :: fs, gs, h => by
    unfold RFs at h
    obtain ⟨v, r, rfl, h1, h2⟩ := h
    obtain ⟨i1, i2⟩ := RFs.look (f := f) h2
    by_cases hx : (f == x) = true
    · refine ⟨fun d e => ⟨v, ?_, ?_⟩, fun e => ?_⟩
      · rw [List.lookup_cons, hx]
      · rw [List.lookup_cons, hx] at e; cases e; exact h1
      · rw [List.lookup_cons, hx] at e; cases e
    · rw [Bool.not_eq_true] at hx
      refine ⟨fun d e => ?_, fun e => ?_⟩
      · rw [List.lookup_cons, hx] at e ⊢; exact i1 d e
      · rw [List.lookup_cons, hx] at e ⊢; exact i2 e
theorem s_own (gd : Good T k g X c ex S0 H0) (hh : c.hot = false) {C m : Str} {o : Expr} {es : List Expr} {w : Sl → Sto → QV → Prop} {ws : Sl → Sto → (List D → Sto → Prop) → Prop} {apos pos : Pos} (ho : PE X o (RE g S0 H0 w)) (ha : PA X es (RA g S0 H0 ws))
    (hn : es.all noStar = true) (hs : noSup o = true) (hl : es.length < 30) (hp : (apos.endLine == pos.line) = true) (h0 : es = [] → ws = fun _ S Q => Q [] S) :
    PE X (.Call (.Attribute o m apos) es [] pos) (RE g S0 H0 fun ρ S Q => ∃ φ, T.me C m = some φ ∧ w ρ S fun x S1 => ∃ fs, insOf S1 x = some (C, fs) ∧ fs.lookup m = none ∧ ws ρ S1 fun ds S2 => φ (x :: ds) S2 Q (ex ρ)) := by
  obtain ⟨K, mg, B⟩ := g
  have e1 : X.K = K := gd.gK
  have e2 : X.mg = mg := gd.gm
  subst e1 e2
  refine ⟨fun pins s σ H Q I h => ?_⟩
  obtain ⟨ρ, S, Qd, r, ⟨φ, hφ, h⟩, kk⟩ := h
  obtain ⟨cc, a, fd, ps, hm, cl, mt, F, b⟩ := gd.ge.mes C m φ hφ
  have rm : RoomB false k X.A := (gd.room.mono (Nat.le_succ k)).cast fun _ => hh
  have fin : RE ⟨X.K, X.mg, B⟩ S0 H0 w σ H fun x H1 => ∃ ad dx gs, x = .ref ad ∧ H1 ad = some (.ins cc dx gs) ∧ gs.lookup m = none ∧
      RA ⟨X.K, X.mg, B⟩ S0 H0 ws σ H1 fun vs H2 => spOf X.K X.mg φ (.ref ad :: vs) H2 Q (EX ⟨X.K, X.mg, B⟩ (ex ρ) S H) := by
    refine ⟨ρ, S, _, r, h, fun x d S1 H1 rd1 rs1 st1 q1 => ?_⟩
    obtain ⟨fs, es1, nl, q1⟩ := q1
    obtain ⟨ad, c', dx, gs, rfl, hm', q, _, rf⟩ := rd1.inst rs1 es1
    rw [hm] at hm'
    obtain rfl : cc = c' := Value.ref.inj (Option.some.inj hm')
    exact ⟨ad, dx, gs, rfl, q, (RFs.look rf).2 nl, ρ, S1, _, r.step rs1 st1, q1, fun vs ds S2 H2 rds rs2 st2 q2 =>
      ⟨B, d :: ds, S2, Qd, ex ρ, RDs.cons (rd1.mono st2) rds, rs2, q2, kk.from (st1.trans st2), contX_of (st1.trans st2)⟩⟩
  refine PySem.W.methodCall_KW (thn (ho.run pins s σ H _ I fin) fun u s1 ⟨x, H1, I1, rx, ad, dx, gs, ex1, ea, nl, q⟩ => ?_) (eval_own hs hn hl hp)
  subst ex1
  obtain rfl : u = Value.ref ad := rx
  refine getmeth_ok I1 ea cl mt nl ?_
  have go : ∀ (as : List Value) (vs : List V) (s2 : Shared) (H2 : Hp), L2.Inv X pins σ H2 s2 → Vals vs as → spOf X.K X.mg φ (.ref ad :: vs) H2 Q (EX ⟨X.K, X.mg, B⟩ (ex ρ) S H) → wpAny (model X.prog X.w) X.A (call (.ref a) (.ref ad :: as)) (EP X pins σ Q) X.xe s2 := by
    intro as vs s2 H2 I2 rv q2
    have rv' : Vals (V.ref ad :: vs) (Value.ref ad :: as) := .cons rfl rv
    have hln : (Value.ref ad :: as ++ []).length = ps.length := by rw [List.append_nil, ← rv'.length]; exact F.many _ _ _ _ q2
    have bt := b s2 (Value.ref ad :: as) I2.kIn hln
    rw [List.append_nil] at bt
    exact run_g (args := ⟨Value.ref ad :: as, []⟩) F gd.gds rm (fun z => by cases z) bt (gd.pass r) I2 rv' q2
  cases es with
  | nil =>
    rw [h0 rfl] at q
    obtain ⟨ρ', S', Qd', r', q', kk'⟩ := q
    exact PySem.W.callWith_K0 (first := [.ref ad]) I1.kIn mt.kp (go [] [] s1 H1 I1 .nil (kk' [] [] S' H1 RDs.nil r'.rs (Step.refl S' H1) q'))
  | cons e es =>
    have hn' := hn
    rw [List.all_cons, Bool.and_eq_true] at hn'
    exact PySem.W.callWith_K (first := [.ref ad]) (h₀ := X.base) I.ok.mod.kin mt.kp (thn (ha.run pos pins s1 σ H1 _ I1 q) fun as s2 ⟨vs, H2, I2, rv, q2⟩ => ⟨I2.kIn, go as vs s2 H2 I2 rv q2⟩) (star_cons hn'.1) (star_any hn'.2)
theorem s_attr (gd : Good T k g X c ex S0 H0) {f : Str} {o : Expr} {w : Sl → Sto → QV → Prop} {pos : Pos} (ho : PE X o (RE g S0 H0 w)) (hs : noSup o = true) :
    PE X (.Attribute o f pos) (RE g S0 H0 fun ρ S Q => w ρ S fun x S1 => ∃ C fs d, insOf S1 x = some (C, fs) ∧ f ∈ T.flds C ∧ fs.lookup f = some d ∧ Q d S1) := by
  refine (pe_fld ho (nosup hs)).imp fun σ H Q h => ?_
  obtain ⟨ρ, S, Qd, r, h, kk⟩ := h
  refine ⟨ρ, S, _, r, h, fun x d S1 H1 rd1 rs1 st1 q1 => ?_⟩
  obtain ⟨C, fs, d', es1, hf, hl, q1⟩ := q1
  obtain ⟨a, c', dx, gs, ea, hm', q, _, rf⟩ := rd1.inst rs1 es1
  obtain ⟨cc, hm, cl, na⟩ := gd.ge.fld C f hf
  rw [hm] at hm'
  obtain rfl : cc = c' := Value.ref.inj (Option.some.inj hm')
  obtain ⟨v, lv, rv⟩ := (RFs.look rf).1 d' hl
  exact ⟨a, cc, dx, gs, v, ea, q, gd.gK ▸ cl, gd.gK ▸ na, lv, (kk.from st1).here rs1 rv q1⟩
/-! ### items, slices, displays -/
theorem plainIx {b : Expr} (h : plainSlice b = true) : PlainIx b := by
  intro o i
  cases b <;> first | rfl | cases h
theorem s_sub (gd : Good T k g X c ex S0 H0) {wa wb : Sl → Sto → QV → Prop} {a b : Expr} {pos : Pos} (ha : PE X a (RE g S0 H0 wa)) (hb : PE X b (RE g S0 H0 wb)) (hp : plainSlice b = true) :
    PE X (.Subscript a b pos) (RE g S0 H0 fun ρ S Q => wa ρ S fun x S1 => wb ρ S1 fun y S2 => subS x y S2 Q) := (pe_ix (sub_sound gd.gK (by have := gd.room.un; omega)) ha hb (plainIx hp)).imp fun _ _ _ h => re_two h
def RP (g : Gx) (S0 : Sto) (H0 : Hp) (w : Sl → Sto → (Option Int → Sto → Prop) → Prop) : TO := fun σ H Q => ∃ ρ S Qd, Rl g S0 H0 ρ S σ H ∧ w ρ S Qd ∧ ∀ o S' H', RS g S' H' → Step S H S' H' → Qd o S' → Q o H'
theorem _root_.L2.PO.imp {X : Cx} {e : Option Expr} {t t' : TO} (h : PO X e t) (f : ∀ σ H Q, t' σ H Q → t σ H Q) : PO X e t' := ⟨fun pins s σ H Q I q => h.run pins s σ H Q I (f σ H Q q)⟩
theorem s_part {w : Sl → Sto → QV → Prop} {e : Expr} (he : PE X e (RE g S0 H0 w)) : PO X (some e) (RP g S0 H0 fun ρ S Q => w ρ S fun d S1 => match d with | .int i => Q (some i) S1 | _ => False) := by
  refine (po_some he).imp fun σ H Q h => ?_
  obtain ⟨ρ, S, Qd, r, h, kk⟩ := h
  refine ⟨ρ, S, _, r, h, fun x d S1 H1 rd1 rs1 st1 q1 => ?_⟩
  split at q1
  · exact ⟨_, rd1.ofInt, kk _ S1 H1 rs1 st1 q1⟩
  · exact q1.elim
theorem s_nopart : PO X none (RP g S0 H0 fun _ S Q => Q none S) := po_none.imp fun σ H Q ⟨ρ, S, Qd, r, h, kk⟩ => kk none S H r.rs (Step.refl S H) h
theorem s_sl (gd : Good T k g X c ex S0 H0) {w : Sl → Sto → QV → Prop} {wl wh : Sl → Sto → (Option Int → Sto → Prop) → Prop} {a : Expr} {lo hi : Option Expr} {pos p2 : Pos} (ha : PE X a (RE g S0 H0 w)) (hl : PO X lo (RP g S0 H0 wl)) (hh : PO X hi (RP g S0 H0 wh)) :
    PE X (.Subscript a (.Slice lo hi none p2) pos) (RE g S0 H0 fun ρ S Q => w ρ S fun x S1 => wl ρ S1 fun l S2 => wh ρ S2 fun h S3 => slS x l h S3 Q) := by
  refine (pe_slice (sl_sound gd.gK) ha hl hh).imp fun σ H Q h => ?_
  obtain ⟨ρ, S, Qd, r, h, kk⟩ := h
  exact ⟨ρ, S, _, r, h, fun x d S1 H1 rd1 rs1 st1 q1 => ⟨ρ, S1, _, r.step rs1 st1, q1, fun l S2 H2 rs2 st2 q2 => ⟨ρ, S2, _, (r.step rs1 st1).step rs2 st2, q2, fun u S3 H3 rs3 st3 q3 =>
    ⟨d, S3, Qd, (rd1.mono st2).mono st3, rs3, q3, kk.from ((st1.trans st2).trans st3)⟩⟩⟩⟩
theorem s_tup {ws : Sl → Sto → (List D → Sto → Prop) → Prop} {es : List Expr} {n : Nat} {pos : Pos} (ha : PA X es (RA g S0 H0 ws)) : PE X (.Tuple es n pos) (RE g S0 H0 fun ρ S Q => ws ρ S fun ds S1 => ds.length ≤ lim ∧ Q (.tup ds) S1) := by
  refine (pe_tup ha).imp fun σ H Q h => ?_
  obtain ⟨ρ, S, Qd, r, h, kk⟩ := h
  exact ⟨ρ, S, _, r, h, fun vs ds S1 H1 rds rs1 st1 q1 => ⟨by rw [← rds.length]; exact lim_size q1.1, fun p hp => (kk.from st1).newT rs1 rds q1.2 p hp⟩⟩
theorem s_lst {fz : Bool} {ws : Sl → Sto → (List D → Sto → Prop) → Prop} {es : List Expr} {pos : Pos} (ha : PA X es (RA g S0 H0 ws)) : PE X (.List es pos) (RE g S0 H0 fun ρ S Q => ws ρ S fun ds S1 => ds.length ≤ lim ∧ newL fz ds S1 Q) := by
  refine (pe_lst ha).imp fun σ H Q h => ?_
  obtain ⟨ρ, S, Qd, r, h, kk⟩ := h
  exact ⟨ρ, S, _, r, h, fun vs ds S1 H1 rds rs1 st1 q1 => ⟨by rw [← rds.length]; exact lim_size q1.1, fun p hp => (kk.from st1).newL rs1 rds q1.2 p hp⟩⟩
end
end G
/-! G10: targets, what is gone through, comprehensions. -/
namespace G
open PySem L2
/-! ### slots forgotten -/
theorem wipe_in {σ : L2.St} {j : Nat} : ∀ {vs : List Nat}, j ∈ vs → j < σ.length → (wipe σ vs)[j]? = some none
  | [], h, _ => by cases h
  | v :: vs, h, hl => by
    unfold wipe
    by_cases e : v = j
    · subst e
      rw [List.getElem?_set_self (by rw [wipe_length]; exact hl)]
    · rw [List.getElem?_set_ne e]
      rcases List.mem_cons.mp h with z | z
      · exact absurd z.symm e
      · exact wipe_in z hl
theorem wipe_set {σ : L2.St} {i : Nat} {x : Option V} {vs : List Nat} (h : i ∈ vs) : wipe (σ.set i x) vs = wipe σ vs := by
  apply List.ext_getElem?
  intro j
  by_cases hj : j ∈ vs
  · by_cases hl : j < σ.length
    · rw [wipe_in hj (by rw [List.length_set]; exact hl), wipe_in hj hl]
    · rw [List.getElem?_eq_none (by rw [wipe_length, List.length_set]; omega), List.getElem?_eq_none (by rw [wipe_length]; omega)]
  · rw [wipe_out hj, wipe_out hj, List.getElem?_set_ne (fun (e : i = j) => hj (by rw [← e]; exact h))]
theorem wipe_wipe {σ : L2.St} {vs : List Nat} : wipe (wipe σ vs) vs = wipe σ vs := by
  apply List.ext_getElem?
  intro j
  by_cases hj : j ∈ vs
  · by_cases hl : j < σ.length
    · rw [wipe_in hj (by rw [wipe_length]; exact hl), wipe_in hj hl]
    · rw [List.getElem?_eq_none (by rw [wipe_length, wipe_length]; omega), List.getElem?_eq_none (by rw [wipe_length]; omega)]
  · rw [wipe_out hj]
theorem wipeD_some {ρ : Sl} {i : Nat} {d : D} : ∀ {vs : List Nat}, (wipeD ρ vs)[i]? = some (some d) → ρ[i]? = some (some d) ∧ i ∉ vs
  | [], h => ⟨h, by simp⟩
  | v :: vs, h => by
    unfold wipeD at h
    by_cases hi : v = i
    · subst hi
      by_cases hv : v < (wipeD ρ vs).length
      · rw [List.getElem?_set_self hv] at h; cases h
      · rw [List.getElem?_eq_none (by simpa using hv)] at h; cases h
    · rw [List.getElem?_set_ne hi] at h
      obtain ⟨h1, h2⟩ := wipeD_some h
      exact ⟨h1, by simp only [List.mem_cons, not_or]; exact ⟨fun e => hi e.symm, h2⟩⟩
theorem wipeD_length (ρ : Sl) : ∀ vs : List Nat, (wipeD ρ vs).length = ρ.length
  | [] => rfl
  | v :: vs => by unfold wipeD; rw [List.length_set, wipeD_length ρ vs]
section
variable {g : Gx} {S0 S : Sto} {H0 H : Hp} {ρ : Sl} {σ : L2.St}
theorem Rl.wipe (r : Rl g S0 H0 ρ S σ H) (vs : List Nat) : Rl g S0 H0 (wipeD ρ vs) S (L2.wipe σ vs) H :=
  ⟨by rw [wipeD_length, wipe_length]; exact r.len, fun i d e => by
    obtain ⟨h1, h2⟩ := wipeD_some e
    rw [wipe_out h2]
    exact r.sl i d h1, r.rs, r.st⟩
theorem Rl.set (r : Rl g S0 H0 ρ S σ H) {i : Nat} {d : D} {v : V} (rd : RD g S H d v) : Rl g S0 H0 (ρ.set i (some d)) S (σ.set i (some v)) H := by
  refine ⟨by rw [List.length_set, List.length_set]; exact r.len, fun j d' e => ?_, r.rs, r.st⟩
  by_cases hj : i = j
  · subst hj
    by_cases hl : i < ρ.length
    · rw [List.getElem?_set_self hl] at e
      cases e
      exact ⟨v, List.getElem?_set_self (by rw [← r.len]; exact hl), rd⟩
    · rw [List.getElem?_eq_none (by simpa using hl)] at e
      cases e
  · rw [List.getElem?_set_ne hj] at e ⊢
    exact r.sl j d' e
end
/-! ### targets -/
def RG (g : Gx) (S0 : Sto) (H0 : Hp) (w : D → Sl → (Sl → Prop) → Prop) (is : List Nat) : TG := fun v σ H Q => ∃ d ρ S Qd, RD g S H d v ∧ Rl g S0 H0 ρ S σ H ∧ w d ρ Qd ∧
  ∀ ρ' σ', Rl g S0 H0 ρ' S σ' H → (∀ vs : List Nat, (∀ i ∈ is, i ∈ vs) → wipe σ' vs = wipe σ vs) → Qd ρ' → Q σ' H
def RGs (g : Gx) (S0 : Sto) (H0 : Hp) (w : List D → Sl → (Sl → Prop) → Prop) (is : List Nat) : TGs := fun us σ H Q => ∃ ds ρ S Qd, RDs g S H ds us ∧ Rl g S0 H0 ρ S σ H ∧ w ds ρ Qd ∧
  ∀ ρ' σ', Rl g S0 H0 ρ' S σ' H → (∀ vs : List Nat, (∀ i ∈ is, i ∈ vs) → wipe σ' vs = wipe σ vs) → Qd ρ' → Q σ' H
theorem _root_.L2.PG.imp {X : Cx} {e : Expr} {t t' : TG} (h : PG X e t) (f : ∀ v σ H Q, t' v σ H Q → t v σ H Q) : PG X e t' := ⟨fun pins s σ H x v Q I r q => h.run pins s σ H x v Q I r (f _ _ _ _ q)⟩
theorem _root_.L2.PGs.imp {X : Cx} {e : List Expr} {t t' : TGs} (h : PGs X e t) (f : ∀ v σ H Q, t' v σ H Q → t v σ H Q) : PGs X e t' := ⟨fun pins s σ H x v Q I r q => h.run pins s σ H x v Q I r (f _ _ _ _ q)⟩
theorem asg_len {env : Env} : ∀ {es : List Expr}, (assignEach es env).length = es.length
  | [] => rfl
  | e :: es => by
    cases e <;> (show (assignEach es env).length + 1 = es.length + 1; rw [asg_len])
theorem asg_star {env : Env} : ∀ {es : List Expr}, es.all noStar = true → (assignEach es env).findIdx? (·.1) = none
  | [], _ => rfl
  | e :: es, h => by
    rw [List.all_cons, Bool.and_eq_true] at h
    have e1 : assignEach (e :: es) env = (false, assign e env) :: assignEach es env := by
      cases e <;> first | rfl | cases h.1
    rw [e1, List.findIdx?_cons]
    simp [asg_star h.2]
section
variable {T : Tab} {k : Nat} {X : Cx} {c : Sc}
theorem mGs_star {c : Sc} : ∀ {ts : Tgs} {es : List Expr}, mGs c ts es = true → es.all noStar = true
  | .nil, [], _ => rfl
  | .cons t r, e :: es, h => by
    unfold mGs at h
    rw [Bool.and_eq_true, Bool.and_eq_true] at h
    rw [List.all_cons, h.1.1, mGs_star h.2]; rfl
  | .nil, _ :: _, h => by unfold mGs at h; cases h
  | .cons _ _, [], h => by unfold mGs at h; cases h
mutual
theorem wG_ex : ∀ {t : Tg} {d : D} {ρ : Sl} {Q : Sl → Prop}, wG t d ρ Q → ∃ ρ', Q ρ'
  | .name i, d, ρ, Q, h => by unfold wG at h; exact ⟨_, h⟩
  | .tup r, d, ρ, Q, h => by
    unfold wG at h
    split at h
    · exact (wGs_ex (c := ()) h).2
    · exact h.elim
theorem wGs_ex {c : Unit} : ∀ {ts : Tgs} {ds : List D} {ρ : Sl} {Q : Sl → Prop}, wGs ts ds ρ Q → (∃ n, ds.length = n) ∧ ∃ ρ', Q ρ'
  | .nil, ds, ρ, Q, h => by unfold wGs at h; exact ⟨⟨_, rfl⟩, ρ, h.2⟩
  | .cons t r, ds, ρ, Q, h => by
    unfold wGs at h
    split at h
    · obtain ⟨ρ1, h1⟩ := wG_ex h
      exact ⟨⟨_, rfl⟩, (wGs_ex (c := ()) h1).2⟩
    · exact h.elim
end
theorem wGs_len {c : Sc} : ∀ {ts : Tgs} {es : List Expr} {ds : List D} {ρ : Sl} {Q : Sl → Prop}, mGs c ts es = true → wGs ts ds ρ Q → ds.length = es.length
  | .nil, [], ds, ρ, Q, _, h => by unfold wGs at h; rw [h.1]; rfl
  | .cons t r, e :: es, ds, ρ, Q, hm, h => by
    unfold mGs at hm
    rw [Bool.and_eq_true, Bool.and_eq_true] at hm
    unfold wGs at h
    split at h
    · obtain ⟨ρ1, h1⟩ := wG_ex h
      have := wGs_len hm.2 h1
      simp [this]
    · exact h.elim
  | .nil, _ :: _, _, _, _, h, _ => by unfold mGs at h; cases h
  | .cons _ _, [], _, _, _, h, _ => by unfold mGs at h; cases h
mutual
theorem sG {g : Gx} {ex : QE} {S0 : Sto} {H0 : Hp} (gd : Good T k g X c ex S0 H0) : ∀ (t : Tg) (x : Expr), mG c t x = true → PG X x (RG g S0 H0 (wG t) (tgSlots t))
  | .name i, .Name x pos, h => by
    unfold mG at h
    rw [Bool.and_eq_true, beq_iff_eq] at h
    obtain ⟨h1, h2⟩ := h
    have hk : List.lookup x X.env.scope.names = some .local ∨ (List.lookup x X.env.scope.names = some .cell ∧ X.fn x = true) := by
      rw [gd.sc, gd.fnk]
      show c.kd x = _ ∨ (c.kd x = _ ∧ _)
      cases e : c.kd x with
      | none => rw [e] at h2; cases h2
      | some kd =>
        rw [e] at h2
        cases kd <;> first | exact .inl rfl | exact .inr ⟨rfl, h2⟩ | cases h2
    refine (pg_name (i := i) gd.nd (by rw [gd.N]; exact h1) (hk.imp id (·.1)) (hk.elim .inr fun z => .inl z.2)).imp fun v σ H Q q => ?_
    obtain ⟨d, ρ, S, Qd, rd, r, hw, kk⟩ := q
    unfold wG at hw
    refine kk _ _ (r.set rd) (fun vs hvs => wipe_set (hvs i ?_)) hw
    unfold tgSlots
    simp
  | .tup ts, .Tuple es n pos, h => by
    unfold mG at h
    rw [Bool.and_eq_true, Bool.not_eq_true'] at h
    obtain ⟨hh, h⟩ := h
    have hs := mGs_star h
    refine (pg_tup (n := es.length) (gd.calm hh) (sGs gd ts es h) asg_len (asg_star hs)).imp fun v σ H Q q => ?_
    obtain ⟨d, ρ, S, Qd, rd, r, hw, kk⟩ := q
    unfold wG at hw
    split at hw
    · obtain ⟨p, us, rfl, sq, rds⟩ := rd.tup
      refine ⟨p, us, rfl, gd.gK ▸ sq, ?_, _, ρ, S, Qd, rds, r, hw, kk⟩
      rw [← rds.length]
      exact wGs_len h hw
    · exact hw.elim
  | .name i, .BoolOp .., h | .name i, .NamedExpr .., h | .name i, .BinOp .., h | .name i, .UnaryOp .., h | .name i, .Lambda .., h | .name i, .IfExp .., h | .name i, .Dict .., h | .name i, .Set .., h | .name i, .ListComp .., h | .name i, .SetComp .., h
  | .name i, .DictComp .., h | .name i, .GeneratorExp .., h | .name i, .Await .., h | .name i, .Yield .., h | .name i, .YieldFrom .., h | .name i, .Compare .., h | .name i, .Call .., h | .name i, .FormattedValue .., h | .name i, .JoinedStr .., h
  | .name i, .Constant .., h | .name i, .Attribute .., h | .name i, .Subscript .., h | .name i, .Starred .., h | .name i, .List .., h | .name i, .Tuple .., h | .name i, .Slice .., h => by unfold mG at h; cases h
  | .tup i, .BoolOp .., h | .tup i, .NamedExpr .., h | .tup i, .BinOp .., h | .tup i, .UnaryOp .., h | .tup i, .Lambda .., h | .tup i, .IfExp .., h | .tup i, .Dict .., h | .tup i, .Set .., h | .tup i, .ListComp .., h | .tup i, .SetComp .., h
  | .tup i, .DictComp .., h | .tup i, .GeneratorExp .., h | .tup i, .Await .., h | .tup i, .Yield .., h | .tup i, .YieldFrom .., h | .tup i, .Compare .., h | .tup i, .Call .., h | .tup i, .FormattedValue .., h | .tup i, .JoinedStr .., h
  | .tup i, .Constant .., h | .tup i, .Attribute .., h | .tup i, .Subscript .., h | .tup i, .Starred .., h | .tup i, .List .., h | .tup i, .Name .., h | .tup i, .Slice .., h => by unfold mG at h; cases h
theorem sGs {g : Gx} {ex : QE} {S0 : Sto} {H0 : Hp} (gd : Good T k g X c ex S0 H0) : ∀ (ts : Tgs) (es : List Expr), mGs c ts es = true → PGs X es (RGs g S0 H0 (wGs ts) (tgsSlots ts))
  | .nil, [], _ => pgs_nil.imp fun us σ H Q q => by
    obtain ⟨ds, ρ, S, Qd, rds, r, hw, kk⟩ := q
    unfold wGs at hw
    obtain ⟨rfl, hw⟩ := hw
    unfold RDs at rds
    exact ⟨rds, kk ρ σ r (fun _ _ => rfl) hw⟩
  | .cons t ts, e :: es, h => by
    unfold mGs at h
    rw [Bool.and_eq_true, Bool.and_eq_true] at h
    have e1 : (assignEach (e :: es) X.env).map (·.2) = assign e X.env :: (assignEach es X.env).map (·.2) := by
      have := h.1.1
      cases e <;> first | rfl | cases this
    refine (pgs_cons (sG gd t e h.1.2) (sGs gd ts es h.2) e1).imp fun us σ H Q q => ?_
    obtain ⟨ds, ρ, S, Qd, rds, r, hw, kk⟩ := q
    unfold wGs at hw
    split at hw
    · unfold RDs at rds
      obtain ⟨v, us', rfl, rd, rds⟩ := rds
      refine ⟨v, us', rfl, _, ρ, S, _, rd, r, hw, fun ρ1 σ1 r1 hw1 q1 => ⟨_, ρ1, S, Qd, rds, r1, q1, fun ρ2 σ2 r2 hw2 q2 => kk ρ2 σ2 r2 (fun vs hvs => ?_) q2⟩⟩
      unfold tgsSlots at hvs
      rw [hw2 vs fun i hi => hvs i (List.mem_append_right _ hi), hw1 vs fun i hi => hvs i (List.mem_append_left _ hi)]
    · exact hw.elim
  | .nil, _ :: _, h => by unfold mGs at h; cases h
  | .cons _ _, [], h => by unfold mGs at h; cases h
end
end
end G
/-! G11: what a for goes through, by data; list comprehensions. -/
namespace G
open PySem L2
def srK : D → Sr → Prop
  | .str _, .tx _ => True
  | .tup _, .tp _ => True
  | .lst _, .ls _ => True
  | .lsk _, .ls _ => True
  | .obj _, .ls _ => True
  | _, _ => False
section
variable {g : Gx} {S S' S1 : Sto} {H H' H1 : Hp}
theorem src_of {d : D} {v : V} {ds : List D} (rs : RS g S H) (rd : RD g S H d v) (h : itemsOf S d = some ds) : ∃ r : Sr, v = r.val ∧ srK d r := by
  cases d with
  | str s => exact ⟨.tx (mkS s), rd.ofStr.1, trivial⟩
  | tup xs => obtain ⟨p, vs, rfl, _⟩ := rd.tup; exact ⟨.tp p, rfl, trivial⟩
  | lst xs => obtain ⟨p, vs, rfl, _⟩ := rd.lst; exact ⟨.ls p, rfl, trivial⟩
  | lsk xs => unfold RD at rd; obtain ⟨p, vs, rfl, _⟩ := rd; exact ⟨.ls p, rfl, trivial⟩
  | obj a => exact ⟨.ls a, rd.ofObj, trivial⟩
  | non => cases h
  | bl b => cases h
  | int i => cases h
  | ty n => cases h
  | gl x => cases h
  | ins _ _ _ => cases h
  | dct _ _ => cases h
  | exn _ _ _ => cases h
theorem src_get {d : D} {r : Sr} {ds : List D} (rs : RS g S H) (rd : RD g S H d r.val) (hk : srK d r) (h : itemsOf S d = some ds) : ∃ xs, r.has g.K H xs ∧ RDs g S H ds xs := by
  cases d with
  | str s =>
    cases r with
    | tx z =>
      obtain ⟨e, cs⟩ := rd.ofStr
      have ez : z = mkS s := by injection e
      subst ez
      simp only [itemsOf, Option.some.injEq] at h
      subst h
      refine ⟨s.map sgn, ?_, rds_signs cs⟩
      show s.map sgn = (mkS s).cps.toList.map sgn
      rw [mkS_list]
    | _ => exact hk.elim
  | tup xs =>
    cases r with
    | tp a =>
      simp only [itemsOf, seqOf, Option.some.injEq] at h
      subst h
      obtain ⟨p, vs, e, sq, r⟩ := rd.tup
      cases e
      exact ⟨vs, sq, r⟩
    | _ => exact hk.elim
  | lst xs =>
    cases r with
    | ls a =>
      obtain ⟨p, vs, e, sq, r⟩ := rd.seqL rs (show seqOf S (.lst xs) = some ds from h) (fun _ z => by cases z)
      cases e
      exact ⟨vs, sq, r⟩
    | _ => exact hk.elim
  | lsk xs =>
    cases r with
    | ls a =>
      obtain ⟨p, vs, e, sq, r⟩ := rd.seqL rs (show seqOf S (.lsk xs) = some ds from h) (fun _ z => by cases z)
      cases e
      exact ⟨vs, sq, r⟩
    | _ => exact hk.elim
  | obj b =>
    cases r with
    | ls a =>
      obtain ⟨p, vs, e, sq, r⟩ := rd.seqL rs (show seqOf S (.obj b) = some ds from h) (fun _ z => by cases z)
      cases e
      exact ⟨vs, sq, r⟩
    | _ => exact hk.elim
  | non => cases h
  | bl b => cases h
  | int i => cases h
  | ty n => cases h
  | gl x => cases h
  | ins _ _ _ => cases h
  | dct _ _ => cases h
  | exn _ _ _ => cases h
theorem items_still {d : D} {ds : List D} (h : itemsOf S d = some ds) (h1 : still d S1 S) (h2 : still d S1 S') : itemsOf S' d = some ds := by
  cases d with
  | obj a =>
    have e1 : S a = S1 a := h1
    have e2 : S' a = S1 a := h2
    simp only [itemsOf, seqOf] at h ⊢
    rw [e2, ← e1]
    exact h
  | _ => exact h
end
/-- an iterator and what it will hand out -/
inductive ItR (g : Gx) : L2.It → List D → (Sto → Prop) → Sto → Hp → Prop
  | seq {d : D} {r : Sr} {ds : List D} {S1 S : Sto} {H : Hp} : srK d r → RD g S H d r.val → itemsOf S d = some ds → still d S1 S → ItR g (Js g.K r) ds (still d S1) S H
  | rng {lo : Int} {n : Nat} {S : Sto} {H : Hp} : ItR g (Itr lo n) ((List.range n).map fun (k : Nat) => .int (lo + k)) (fun _ => True) S H
  | rngC {lo cc : Int} {n : Nat} {S : Sto} {H : Hp} : ItR g (Itc lo cc n) ((List.range n).map fun (k : Nat) => .int (lo + k * cc)) (fun _ => True) S H
  | enm {d : D} {r : Sr} {ds : List D} {S1 S : Sto} {H : Hp} : srK d r → RD g S H d r.val → itemsOf S d = some ds → still d S1 S → ItR g (Je g.K r) (ds.zipIdx.map fun p => .tup [.int p.2, p.1]) (still d S1) S H
  | zp {d d' : D} {r r' : Sr} {ds ds' : List D} {S1 S : Sto} {H : Hp} : srK d r → RD g S H d r.val → itemsOf S d = some ds → srK d' r' → RD g S H d' r'.val → itemsOf S d' = some ds' → still d S1 S → still d' S1 S →
      ItR g (Jz g.K r r') ((ds.zip ds').map fun p => .tup [p.1, p.2]) (fun S => still d S1 S ∧ still d' S1 S) S H
section
variable {g : Gx} {J : L2.It} {ds : List D} {same : Sto → Prop} {S S' : Sto} {H H' : Hp}
theorem ItR.step (h : ItR g J ds same S H) (st : Step S H S' H') (hs : same S') : ItR g J ds same S' H' := by
  cases h with
  | seq k rd e s => exact .seq k (rd.mono st) (items_still e s hs) hs
  | rng => exact .rng
  | rngC => exact .rngC
  | enm k rd e s => exact .enm k (rd.mono st) (items_still e s hs) hs
  | zp k rd e k' rd' e' s s' => exact .zp k (rd.mono st) (items_still e s hs.1) k' (rd'.mono st) (items_still e' s' hs.2) hs.1 hs.2
theorem ItR.busy (h : ItR g J ds same S H) {p : Addr} {u : HO} (hp : H p = none) : ItR (g.busy p) J ds same S (upd H p u) := by
  cases h with
  | seq k rd e s => exact ItR.seq (g := g.busy p) k (rd.busy hp) e s
  | rng => exact .rng
  | rngC => exact .rngC
  | enm k rd e s => exact ItR.enm (g := g.busy p) k (rd.busy hp) e s
  | zp k rd e k' rd' e' s s' => exact ItR.zp (g := g.busy p) k (rd.busy hp) e k' (rd'.busy hp) e' s s'
theorem ItR.turn {p : Addr} {u : HO} (h : ItR (g.busy p) J ds same S H) : ItR (g.busy p) J ds same S (upd H p u) := by
  cases h with
  | seq k rd e s => exact .seq k rd.turn e s
  | rng => exact .rng
  | rngC => exact .rngC
  | enm k rd e s => exact .enm k rd.turn e s
  | zp k rd e k' rd' e' s s' => exact .zp k rd.turn e k' rd'.turn e' s s'
theorem js_get {r : Sr} {xs : List V} (rds : RDs g S H ds xs) (hx : r.has g.K H xs) : (∀ (i : Nat) (d : D), ds[i]? = some d → (Js g.K r).go i H ∧ ∀ x H', (Js g.K r).yld i H x H' → H' = H ∧ RD g S H d x) ∧ ∀ i : Nat, i = ds.length → (Js g.K r).stop i H := by
  refine ⟨fun i d e => ?_, fun i e => ?_⟩
  · obtain ⟨v, hv, rd⟩ := rds.get i d e
    cases r with
    | ls a => exact ⟨⟨xs, v, hx, hv⟩, fun x H' ⟨e1, e2⟩ => ⟨e1, by have := e2 xs hx; rw [hv] at this; cases this; exact rd⟩⟩
    | tp a => exact ⟨⟨xs, v, hx, hv⟩, fun x H' ⟨e1, e2⟩ => ⟨e1, by have := e2 xs hx; rw [hv] at this; cases this; exact rd⟩⟩
    | tx z =>
      have hx' : xs = z.cps.toList.map sgn := hx
      have hl : i < z.cps.size := by
        have := (List.getElem?_eq_some_iff.mp hv).1
        rw [hx', List.length_map, Array.length_toList] at this
        exact this
      refine ⟨hl, fun x H' ⟨e1, c, hc, ex⟩ => ⟨e1, ?_⟩⟩
      rw [hx', List.getElem?_map, Array.getElem?_toList, hc] at hv
      cases hv
      rw [ex]
      exact rd
  · have hl := rds.length
    cases r with
    | ls a => exact ⟨xs, hx, by omega⟩
    | tp a => exact ⟨xs, hx, by omega⟩
    | tx z =>
      have hx' : xs = z.cps.toList.map sgn := hx
      show z.cps.size ≤ i
      have hl2 : xs.length = z.cps.size := by rw [hx']; simp
      rw [e, rds.length, hl2]
      exact Nat.le_refl _
theorem ItR.get (h : ItR g J ds same S H) (rs : RS g S H) : (∀ (i : Nat) (d : D), ds[i]? = some d → J.go i H ∧ ∀ x H', J.yld i H x H' → RS g S H' ∧ Step S H S H' ∧ RD g S H' d x) ∧ ∀ i : Nat, i = ds.length → J.stop i H := by
  cases h with
  | seq k rd e s =>
    obtain ⟨xs, hx, rds⟩ := src_get rs rd k e
    obtain ⟨a1, a2⟩ := js_get rds hx
    refine ⟨fun i d e => ⟨(a1 i d e).1, fun x H' hy => ?_⟩, a2⟩
    obtain ⟨rfl, q⟩ := (a1 i d e).2 x H' hy
    exact ⟨rs, Step.refl _ _, q⟩
  | @rng lo n =>
    refine ⟨fun i d e => ?_, fun i e => ?_⟩
    · rw [List.getElem?_map] at e
      by_cases hi : i < n
      · rw [List.getElem?_range hi] at e
        cases e
        refine ⟨hi, fun x H' ⟨e1, e2⟩ => ?_⟩
        subst e1 e2
        exact ⟨rs, Step.refl _ _, rd_int⟩
      · rw [List.getElem?_eq_none (by simpa using hi)] at e
        cases e
    · rw [List.length_map, List.length_range] at e
      exact Nat.le_of_eq e.symm
  | @rngC lo cc n =>
    refine ⟨fun i d e => ?_, fun i e => ?_⟩
    · rw [List.getElem?_map] at e
      by_cases hi : i < n
      · rw [List.getElem?_range hi] at e
        cases e
        refine ⟨hi, fun x H' ⟨e1, e2⟩ => ?_⟩
        subst e1 e2
        exact ⟨rs, Step.refl _ _, rd_int⟩
      · rw [List.getElem?_eq_none (by simpa using hi)] at e
        cases e
    · rw [List.length_map, List.length_range] at e
      exact Nat.le_of_eq e.symm
  | @enm d0 r ds0 S1 _ _ k rd e s =>
    obtain ⟨xs, hx, rds⟩ := src_get rs rd k e
    refine ⟨fun i d e => ?_, fun i e => ⟨xs, hx, by rw [e, List.length_map, List.length_zipIdx]; exact rds.length⟩⟩
    rw [List.getElem?_map, List.getElem?_zipIdx] at e
    cases hd : ds0[i]? with
    | none => rw [hd] at e; cases e
    | some d1 =>
      rw [hd] at e
      cases e
      obtain ⟨v, hv, rdv⟩ := rds.get i d1 hd
      refine ⟨⟨xs, v, hx, hv⟩, fun x H' hy => ?_⟩
      obtain ⟨Tp, y, rfl, hT, rfl, hy⟩ := hy
      have ey := hy xs hx
      rw [hv] at ey
      cases ey
      obtain ⟨rs', st'⟩ := rs.frozen (o := .tup [.int i, v]) hT
      refine ⟨rs', st', ?_⟩
      simp only [Nat.zero_add]
      exact RD.newT rs (RDs.cons rd_int (RDs.cons rdv RDs.nil)) hT
  | @zp d0 d0' r r' ds0 ds0' S1 _ _ k rd e k' rd' e' s s' =>
    obtain ⟨xs, hx, rds⟩ := src_get rs rd k e
    obtain ⟨ys, hy, rds'⟩ := src_get rs rd' k' e'
    refine ⟨fun i d e => ?_, fun i e => ⟨xs, ys, hx, hy, by rw [e, List.length_map, List.length_zip, rds.length, rds'.length]⟩⟩
    rw [List.getElem?_map] at e
    cases hz : (ds0.zip ds0')[i]? with
    | none => rw [hz] at e; cases e
    | some q =>
      rw [hz] at e
      cases e
      rw [List.getElem?_zip_eq_some] at hz
      obtain ⟨v, hv, rdv⟩ := rds.get i q.1 hz.1
      obtain ⟨v', hv', rdv'⟩ := rds'.get i q.2 hz.2
      refine ⟨⟨xs, ys, v, v', hx, hy, hv, hv'⟩, fun x H' hyl => ?_⟩
      obtain ⟨Tp, a, b, rfl, hT, rfl, h1, h2⟩ := hyl
      have ea := h1 xs hx
      have eb := h2 ys hy
      rw [hv] at ea
      rw [hv'] at eb
      cases ea
      cases eb
      obtain ⟨rs', st'⟩ := rs.frozen (o := .tup [v, v']) hT
      exact ⟨rs', st', RD.newT rs (RDs.cons rdv (RDs.cons rdv' RDs.nil)) hT⟩
end
def RI (g : Gx) (S0 : Sto) (H0 : Hp) (w : Sl → Sto → (List D → (Sto → Prop) → Sto → Prop) → Prop) : TI := fun σ H R => ∃ ρ S Qi, Rl g S0 H0 ρ S σ H ∧ w ρ S Qi ∧
  ∀ ds same S1 H1 J, RS g S1 H1 → Step S H S1 H1 → ItR g J ds same S1 H1 → Qi ds same S1 → R J H1
section
variable {T : Tab} {k : Nat} {g : Gx} {X : Cx} {c : Sc} {ex : QE} {S0 : Sto} {H0 : Hp}
theorem still_self (d : D) (S : Sto) : still d S S := by cases d <;> first | exact rfl | trivial
theorem s_seq (gd : Good T k g X c ex S0 H0) {w : Sl → Sto → QV → Prop} {tg e : Expr} (he : PE X e (RE g S0 H0 w)) :
    PI X tg e (RI g S0 H0 fun ρ S Q => w ρ S fun d S1 => ∃ ds, itemsOf S1 d = some ds ∧ Q ds (still d S1) S1) := by
  refine (pi_s he).imp fun σ H R h => ?_
  obtain ⟨ρ, S, Qi, r, h, kk⟩ := h
  refine ⟨ρ, S, _, r, h, fun v d S1 H1 rd1 rs1 st1 ⟨ds, hd, q1⟩ => ?_⟩
  obtain ⟨sr, rfl, hk⟩ := src_of rs1 rd1 hd
  obtain ⟨xs, hx, _⟩ := src_get rs1 rd1 hk hd
  rw [gd.gK]
  exact ⟨sr, xs, rfl, hx, kk ds _ S1 H1 _ rs1 st1 (.seq hk rd1 hd (still_self d S1)) q1⟩
theorem s_enum (gd : Good T k g X c ex S0 H0) {w : Sl → Sto → QV → Prop} {e : Expr} {p pos tpos : Pos} {elts : List Expr} {kk : Nat} (he : PE X e (RE g S0 H0 w)) (hg : glB (c.kd ("enumerate" : Str)) = true) (hn : noStar e = true) :
    PI X (.Tuple elts kk tpos) (.Call (.Name "enumerate" p) [e] [] pos) (RI g S0 H0 fun ρ S Q => w ρ S fun d S1 => ∃ ds, itemsOf S1 d = some ds ∧ Q (ds.zipIdx.map fun p => .tup [.int p.2, p.1]) (still d S1) S1) := by
  have hm : X.mg "enumerate" = none := by rw [gd.gm]; exact gd.ge.blt _ (by decide +kernel)
  refine (pi_e (gd.gl hg) hm (pa_cons he pa_nil (star_cons hn)) (star_cons hn)).imp fun σ H R h => ?_
  obtain ⟨ρ, S, Qi, r, h, kk⟩ := h
  refine ⟨ρ, S, _, r, h, fun v d S1 H1 rd1 rs1 st1 ⟨ds, hd, q1⟩ => ?_⟩
  obtain ⟨sr, rfl, hk⟩ := src_of rs1 rd1 hd
  obtain ⟨xs, hx, _⟩ := src_get rs1 rd1 hk hd
  rw [gd.gK]
  exact ⟨sr, xs, rfl, hx, kk _ _ S1 H1 _ rs1 st1 (.enm hk rd1 hd (still_self d S1)) q1⟩
theorem s_zip (gd : Good T k g X c ex S0 H0) {w w' : Sl → Sto → QV → Prop} {e e' : Expr} {p pos tpos : Pos} {elts : List Expr} {kk : Nat} (he : PE X e (RE g S0 H0 w)) (he' : PE X e' (RE g S0 H0 w')) (hg : glB (c.kd ("zip" : Str)) = true) (hn : noStar e = true) (hn' : noStar e' = true) :
    PI X (.Tuple elts kk tpos) (.Call (.Name "zip" p) [e, e'] [] pos) (RI g S0 H0 fun ρ S Q => w ρ S fun x S1 => w' ρ S1 fun y S2 => ∃ xs ys, itemsOf S2 x = some xs ∧ itemsOf S2 y = some ys ∧ Q ((xs.zip ys).map fun p => .tup [p.1, p.2]) (fun S => still x S2 S ∧ still y S2 S) S2) := by
  have hm : X.mg "zip" = none := by rw [gd.gm]; exact gd.ge.blt _ (by decide +kernel)
  refine (pi_z (gd.gl hg) hm (pa_cons he (pa_cons he' pa_nil (star_cons hn')) (star_cons hn)) (star_cons hn) (star_any (by rw [List.all_cons, hn']; rfl))).imp fun σ H R h => ?_
  obtain ⟨ρ, S, Qi, r, h, kk⟩ := h
  refine ⟨ρ, S, _, r, h, fun v d S1 H1 rd1 rs1 st1 q1 => ⟨ρ, S1, _, r.step rs1 st1, q1, fun v' d' S2 H2 rd2 rs2 st2 ⟨xs, ys, h1, h2, q2⟩ => ?_⟩⟩
  have rd1' := rd1.mono st2
  obtain ⟨sr, rfl, hk⟩ := src_of rs2 rd1' h1
  obtain ⟨us, hx, _⟩ := src_get rs2 rd1' hk h1
  obtain ⟨sr', rfl, hk'⟩ := src_of rs2 rd2 h2
  obtain ⟨us', hx', _⟩ := src_get rs2 rd2 hk' h2
  rw [gd.gK]
  exact ⟨sr, sr', us, us', rfl, hx, hx', kk _ _ S2 H2 _ rs2 (st1.trans st2) (.zp hk rd1' h1 hk' rd2 h2 (still_self d S2) (still_self d' S2)) q2⟩
theorem s_range1 (gd : Good T k g X c ex S0 H0) {w : Sl → Sto → QV → Prop} {tg e : Expr} {p pos : Pos} (ha : PE X e (RE g S0 H0 w)) (hg : glB (c.kd ("range" : Str)) = true) (hn : noStar e = true) :
    PI X tg (.Call (.Name "range" p) [e] [] pos) (RI g S0 H0 fun ρ S Q => w ρ S fun d S1 => rngS [d] S1 Q) := by
  have hm : X.mg "range" = none := by rw [gd.gm]; exact gd.ge.blt _ (by decide +kernel)
  refine (pi_range1 (gd.gl hg) hm (pa_cons ha pa_nil (star_cons hn)) (star_cons hn)).imp fun σ H R h => ?_
  obtain ⟨ρ, S, Qi, r, h, kk⟩ := h
  refine ⟨ρ, S, _, r, h, fun v d S1 H1 rd1 rs1 st1 q1 => ?_⟩
  unfold rngS at q1
  split at q1
  · rename_i n e
    cases e
    exact ⟨n, by rw [rd1.ofInt], q1.1.1, q1.1.2, kk _ _ S1 H1 _ rs1 st1 .rng q1.2⟩
  · rename_i e; cases e
  · rename_i e; cases e
  · exact q1.elim
theorem s_range2 (gd : Good T k g X c ex S0 H0) {w w' : Sl → Sto → QV → Prop} {tg e e' : Expr} {p pos : Pos} (ha : PE X e (RE g S0 H0 w)) (ha' : PE X e' (RE g S0 H0 w')) (hg : glB (c.kd ("range" : Str)) = true) (hn : noStar e = true) (hn' : noStar e' = true) :
    PI X tg (.Call (.Name "range" p) [e, e'] [] pos) (RI g S0 H0 fun ρ S Q => w ρ S fun d S1 => w' ρ S1 fun d' S2 => rngS [d, d'] S2 Q) := by
  have hm : X.mg "range" = none := by rw [gd.gm]; exact gd.ge.blt _ (by decide +kernel)
  refine (pi_range2 (gd.gl hg) hm (pa_cons ha (pa_cons ha' pa_nil (star_cons hn')) (star_cons hn)) (by rw [star_cons hn, star_cons hn']; rfl) (star_cons hn')).imp fun σ H R h => ?_
  obtain ⟨ρ, S, Qi, r, h, kk⟩ := h
  refine ⟨ρ, S, _, r, h, fun v d S1 H1 rd1 rs1 st1 q1 => ⟨ρ, S1, _, r.step rs1 st1, q1, fun v' d' S2 H2 rd2 rs2 st2 q2 => ?_⟩⟩
  unfold rngS at q2
  split at q2
  · rename_i e; cases e
  · rename_i a b e
    cases e
    exact ⟨a, b, by rw [rd1.ofInt, rd2.ofInt], q2.1, kk _ _ S2 H2 _ rs2 (st1.trans st2) .rng q2.2⟩
  · rename_i e; cases e
  · exact q2.elim
theorem s_range3 (gd : Good T k g X c ex S0 H0) {w w' w'' : Sl → Sto → QV → Prop} {tg e e' e'' : Expr} {p pos : Pos} (ha : PE X e (RE g S0 H0 w)) (ha' : PE X e' (RE g S0 H0 w')) (ha'' : PE X e'' (RE g S0 H0 w'')) (hg : glB (c.kd ("range" : Str)) = true) (hn : noStar e = true) (hn' : noStar e' = true) (hn'' : noStar e'' = true) :
    PI X tg (.Call (.Name "range" p) [e, e', e''] [] pos) (RI g S0 H0 fun ρ S Q => w ρ S fun d S1 => w' ρ S1 fun d' S2 => w'' ρ S2 fun d'' S3 => rngS [d, d', d''] S3 Q) := by
  have hm : X.mg "range" = none := by rw [gd.gm]; exact gd.ge.blt _ (by decide +kernel)
  refine (pi_range3 (gd.gl hg) hm (pa_cons ha (pa_cons ha' (pa_cons ha'' pa_nil (star_cons hn'')) (star_cons hn')) (star_cons hn)) (star_cons hn) (star_any (by rw [List.all_cons, List.all_cons, hn', hn'']; rfl))).imp fun σ H R h => ?_
  obtain ⟨ρ, S, Qi, r, h, kk⟩ := h
  refine ⟨ρ, S, _, r, h, fun v d S1 H1 rd1 rs1 st1 q1 => ⟨ρ, S1, _, r.step rs1 st1, q1, fun v' d' S2 H2 rd2 rs2 st2 q2 => ⟨ρ, S2, _, (r.step rs1 st1).step rs2 st2, q2, fun v'' d'' S3 H3 rd3 rs3 st3 q3 => ?_⟩⟩⟩
  unfold rngS at q3
  split at q3
  · rename_i e; cases e
  · rename_i e; cases e
  · rename_i a b c e
    cases e
    obtain ⟨n, hn, q3⟩ := q3
    exact ⟨a, b, c, n, by rw [rd1.ofInt, rd2.ofInt, rd3.ofInt], hn, kk _ _ S3 H3 _ rs3 ((st1.trans st2).trans st3) .rngC q3⟩
  · exact q3.elim
/-! ### list comprehensions -/
theorem wLc_same {set : D → Sl → (Sl → Prop) → Prop} {test : Sl → Sto → (Bool → Sto → Prop) → Prop} {elt : Sl → Sto → QV → Prop} {same : Sto → Prop} {ρ : Sl} {ds acc : List D} {S : Sto} {Q : List D → Sto → Prop} (h : wLc set test elt same ρ ds acc S Q) : same S := by
  cases ds <;> (unfold wLc at h; exact h.1)
mutual
theorem RD.adopt {S : Sto} {H : Hp} {p : Addr} {o : O} : ∀ (d : D) (v : V), RD (g.busy p) S H d v → RD g (S.set p o) H d v
  | .non, v, h => by unfold RD at *; exact h
  | .bl b, v, h => by unfold RD at *; exact h
  | .int i, v, h => by unfold RD at *; exact h
  | .str s, v, h => by unfold RD at *; exact h
  | .tup xs, v, h => by
    unfold RD at *
    obtain ⟨a, vs, e, k, r⟩ := h
    refine ⟨a, vs, e, ?_, RDs.adopt xs vs r⟩
    rcases k with ⟨k, nb, q⟩ | k
    · have ne : a ≠ p := fun z => nb (by rw [z]; exact List.mem_cons_self ..)
      exact .inl ⟨by rw [Sto.set_ne ne]; exact k, fun z => nb (List.mem_cons_of_mem _ z), q⟩
    · exact .inr k
  | .lst xs, v, h => by
    unfold RD at *
    obtain ⟨a, vs, e, k, nb, q, r⟩ := h
    have ne : a ≠ p := fun z => nb (by rw [z]; exact List.mem_cons_self ..)
    exact ⟨a, vs, e, by rw [Sto.set_ne ne]; exact k, fun z => nb (List.mem_cons_of_mem _ z), q, RDs.adopt xs vs r⟩
  | .lsk xs, v, h => by
    unfold RD at *
    obtain ⟨a, vs, e, k, r⟩ := h
    refine ⟨a, vs, e, ?_, RDs.adopt xs vs r⟩
    rcases k with ⟨k, nb, q⟩ | k
    · have ne : a ≠ p := fun z => nb (by rw [z]; exact List.mem_cons_self ..)
      exact .inl ⟨by rw [Sto.set_ne ne]; exact k, fun z => nb (List.mem_cons_of_mem _ z), q⟩
    · exact .inr k
  | .obj a, v, h => by unfold RD at *; exact h
  | .ty n, v, h => by unfold RD at *; exact h
  | .gl x, v, h => by unfold RD at *; exact h
  | .ins C ns ds, v, h => by
    unfold RD at *
    obtain ⟨a, c, dx, vs, e, ⟨k, nb, q⟩, ⟨k', nb', q'⟩, m, l, r⟩ := h
    have ne : a ≠ p := fun z => nb (by rw [z]; exact List.mem_cons_self ..)
    have ne' : dx ≠ p := fun z => nb' (by rw [z]; exact List.mem_cons_self ..)
    exact ⟨a, c, dx, vs, e, ⟨by rw [Sto.set_ne ne]; exact k, fun z => nb (List.mem_cons_of_mem _ z), q⟩, ⟨by rw [Sto.set_ne ne']; exact k', fun z => nb' (List.mem_cons_of_mem _ z), q'⟩, m, l, RDs.adopt ds vs r⟩
  | .dct ks ds, v, h => by
    unfold RD at *
    obtain ⟨a, qs, vs, e, ⟨k, nb, q⟩, m, l, r⟩ := h
    have ne : a ≠ p := fun z => nb (by rw [z]; exact List.mem_cons_self ..)
    exact ⟨a, qs, vs, e, ⟨by rw [Sto.set_ne ne]; exact k, fun z => nb (List.mem_cons_of_mem _ z), q⟩, m, l, RDs.adopt ds vs r⟩
  | .exn C ns ds, v, h => by
    unfold RD at *
    obtain ⟨a, c, d, vs, e, ⟨k, nb, q⟩, m, l, r, z⟩ := h
    have ne : a ≠ p := fun z => nb (by rw [z]; exact List.mem_cons_self ..)
    refine ⟨a, c, d, vs, e, ⟨by rw [Sto.set_ne ne]; exact k, fun z => nb (List.mem_cons_of_mem _ z), q⟩, m, l, RDs.adopt ds vs r, ?_⟩
    rcases z with z | ⟨dx, e1, k1, n1, q1⟩
    · exact .inl z
    · exact .inr ⟨dx, e1, by rw [Sto.set_ne (fun z => n1 (by rw [z]; exact List.mem_cons_self ..))]; exact k1, fun z => n1 (List.mem_cons_of_mem _ z), q1⟩
theorem RDs.adopt {S : Sto} {H : Hp} {p : Addr} {o : O} : ∀ (ds : List D) (vs : List V), RDs (g.busy p) S H ds vs → RDs g (S.set p o) H ds vs
  | [], vs, h => by unfold RDs at *; exact h
  | d :: ds, vs, h => by
    unfold RDs at *
    obtain ⟨v, r, e, h1, h2⟩ := h
    exact ⟨v, r, e, RD.adopt d v h1, RDs.adopt ds r h2⟩
end
/-- the list that was made is an object of its own -/
theorem RS.adopt {S : Sto} {H : Hp} {p : Addr} {o : O} (rs : RS (g.busy p) S H) (hp : ∀ b, H p ≠ some (.own b)) (hb : p ∉ g.B) (new : RO g (S.set p o) H p o) : RS g (S.set p o) H := by
  refine ⟨fun a x hx => ?_, fun b hb' => ?_⟩
  · by_cases ha : a = p
    · subst ha
      rw [Sto.set_same] at hx
      cases hx
      exact ⟨hb, new⟩
    · rw [Sto.set_ne ha] at hx
      obtain ⟨nb, q⟩ := rs.1 a x hx
      refine ⟨fun z => nb (List.mem_cons_of_mem _ z), ?_⟩
      have f := fun d v => RD.adopt (g := g) (p := p) (S := S) (H := H) (o := o) d v
      cases x with
      | lst xs => obtain ⟨vs', h, r'⟩ := q; exact ⟨vs', h, r'.adopt⟩
      | ins C fs =>
        obtain ⟨c', dx, gs, m, h, k', o1, r'⟩ := q
        have nd : dx ≠ p := fun z => hp _ (z ▸ o1)
        exact ⟨c', dx, gs, m, h, ⟨by rw [Sto.set_ne nd]; exact k'.1, fun z => k'.2 (List.mem_cons_of_mem _ z)⟩, o1, r'.via f⟩
      | dct kvs => obtain ⟨gs, h, r'⟩ := q; exact ⟨gs, h, r'.via f⟩
  · obtain ⟨k', o, e⟩ := rs.2 b (List.mem_cons_of_mem _ hb')
    exact ⟨by rw [Sto.set_ne (fun z => hb (by rw [← z]; exact hb'))]; exact k', o, e⟩
/-- whatever lists are being made around -/
def REa (K : PySem.W.Frag) (mg : Str → Option Value) (w : Sl → Sto → QV → Prop) : TE := fun σ H Q => ∃ B S0 H0, RE ⟨K, mg, B⟩ S0 H0 w σ H Q
def RTa (K : PySem.W.Frag) (mg : Str → Option Value) (w : Sl → Sto → (Bool → Sto → Prop) → Prop) : TT := fun σ H Q => ∃ B S0 H0, RT ⟨K, mg, B⟩ S0 H0 w σ H Q
def RGa (K : PySem.W.Frag) (mg : Str → Option Value) (w : D → Sl → (Sl → Prop) → Prop) (is : List Nat) : TG := fun v σ H Q => ∃ B S0 H0, RG ⟨K, mg, B⟩ S0 H0 w is v σ H Q
/-- [elt for target in iter if ..]: as tLc, and Z at every turn -/
def tLcB (Z : Hp → Prop) (wi : TI) (g : TG) (tt : TT) (te : TE) (vs : List Nat) : TE := fun σ H Q => wi σ H fun J H1 => ∀ D, H1 D = none → ∃ W : Nat → Nat → Hp → Prop, (∃ m, W 0 m (upd H1 D (.lst []))) ∧ (∀ i m H, W i m H → Z H) ∧ ∀ i m H, W i m H →
  (J.stop i H ∧ Q (.ref D) H) ∨ (J.go i H ∧ ∃ Nx : Hp → Prop, (∀ H', Nx H' → ∃ m', m' < m ∧ W (i + 1) m' H') ∧ ∀ x H', J.yld i H x H' → g x (wipe σ vs) H' fun σ2 H2 => wipe σ2 vs = wipe σ vs ∧ tt σ2 H2 fun b H3 =>
    if b = true then te σ2 H3 fun y H4 => ∃ acc, H4 D = some (.lst acc) ∧ acc.length < sizeLine ∧ Nx (upd H4 D (.lst (acc ++ [y]))) else Nx H3)
theorem lc_readZ {Z : Hp → Prop} {K : PySem.W.Frag} {mg : Str → Option Value} {B : List Addr} {fz : Bool} {is : List Nat} {wi : Sl → Sto → (List D → (Sto → Prop) → Sto → Prop) → Prop} {wg : D → Sl → (Sl → Prop) → Prop} {wt : Sl → Sto → (Bool → Sto → Prop) → Prop} {we : Sl → Sto → QV → Prop} {σ : L2.St} {H : Hp} {Q : VK}
    (hZ : ∀ S' H', Step S0 H0 S' H' → Z H') (h : RE ⟨K, mg, B⟩ S0 H0 (fun ρ S Q => wi ρ S fun ds same S1 => wLc wg wt we same (wipeD ρ is) ds [] S1 fun ys S2 => newL fz ys S2 Q) σ H Q) :
    tLcB Z (RI ⟨K, mg, B⟩ S0 H0 wi) (RGa K mg wg is) (RTa K mg wt) (REa K mg we) is σ H Q := by
  obtain ⟨ρ, S, Qd, r, h, kk⟩ := h
  refine ⟨ρ, S, _, r, h, fun ds same S1 H1 J rs1 st1 itr q1 p hp => ?_⟩
  let gb : Gx := Gx.busy ⟨K, mg, B⟩ p
  have r1 := (r.step rs1 st1).wipe is
  refine ⟨fun i m H' => ∃ S' acc vs, m = ds.length - i ∧ i ≤ ds.length ∧ RS gb S' H' ∧ Step S1 H1 S' H' ∧ H' p = some (.lst vs) ∧ RDs gb S' H' acc vs ∧ ItR gb J ds same S' H' ∧
    (∀ (j : Nat) (d : D), (wipeD ρ is)[j]? = some (some d) → ∃ v, (wipe σ is)[j]? = some (some v) ∧ RD gb S' H' d v) ∧ wLc wg wt we same (wipeD ρ is) (ds.drop i) acc S' fun ys S2 => newL fz ys S2 Qd, ?_, fun i m H' ⟨S', _, _, _, _, _, st', _⟩ => hZ _ _ ((r.st.trans st1).trans st'), ?_⟩
  · refine ⟨_, S1, [], [], rfl, Nat.zero_le _, rs1.busy hp, (rs1.frozen hp).2, upd_same, RDs.nil, itr.busy hp, fun j d e => ?_, q1⟩
    obtain ⟨v, e1, rd⟩ := r1.sl j d e
    exact ⟨v, e1, rd.busy hp⟩
  · rintro i m H' ⟨S', acc, vs, rfl, hi, rs', st', hpv, racc, itr', sl', hw⟩
    have hb : p ∉ B := rs1.fresh hp
    have hsp : S' p = none := (rs'.2 p (List.mem_cons_self ..)).1
    obtain ⟨hgo, hstop⟩ := itr'.get rs'
    by_cases hlt : i < ds.length
    · right
      have hd : ds[i]? = some ds[i] := List.getElem?_eq_getElem hlt
      rw [List.drop_eq_getElem_cons hlt] at hw
      unfold wLc at hw
      obtain ⟨hsame, hw⟩ := hw
      refine ⟨(hgo i _ hd).1, _, fun H'' h => h, fun x H'' hy => ?_⟩
      obtain ⟨rs2, st2, rd2⟩ := (hgo i _ hd).2 x H'' hy
      have rl : Rl gb S' H'' (wipeD ρ is) S' (wipe σ is) H'' := ⟨r1.len, fun j d e => by obtain ⟨v, e1, rd⟩ := sl' j d e; exact ⟨v, e1, rd.mono st2⟩, rs2, Step.refl _ _⟩
      have hp2 : H'' p = some (.lst vs) := (st2 p _ hpv hsp).1
      have next : ∀ S4 H4 acc' vs', RS gb S4 H4 → Step S' H'' S4 H4 → H4 p = some (.lst vs) → RDs gb S4 (upd H4 p (.lst vs')) acc' vs' → wLc wg wt we same (wipeD ρ is) (ds.drop (i + 1)) acc' S4 (fun ys S2 => newL fz ys S2 Qd) →
          ∃ m', m' < ds.length - i ∧ ∃ S' acc vs, m' = ds.length - (i + 1) ∧ i + 1 ≤ ds.length ∧ RS gb S' (upd H4 p (.lst vs')) ∧ Step S1 H1 S' (upd H4 p (.lst vs')) ∧ (upd H4 p (.lst vs')) p = some (.lst vs) ∧ RDs gb S' (upd H4 p (.lst vs')) acc vs ∧ ItR gb J ds same S' (upd H4 p (.lst vs')) ∧
    (∀ (j : Nat) (d : D), (wipeD ρ is)[j]? = some (some d) → ∃ v, (wipe σ is)[j]? = some (some v) ∧ RD gb S' (upd H4 p (.lst vs')) d v) ∧ wLc wg wt we same (wipeD ρ is) (ds.drop (i + 1)) acc S' fun ys S2 => newL fz ys S2 Qd := by
        intro S4 H4 acc' vs' rs4 st4 hp4 racc' hw4
        refine ⟨_, by omega, S4, acc', vs', rfl, hlt, rs4.turn (fun b z => by rw [hp4] at z; cases z), ?_, upd_same, racc', ((itr'.step (st2.trans st4) (wLc_same hw4))).turn, fun j d e => ?_, hw4⟩
        · intro a o ha hs
          have h3 := (st'.trans (st2.trans st4)) a o ha hs
          exact ⟨by rw [upd_ne (ne_of_none ha hp)]; exact h3.1, h3.2⟩
        · obtain ⟨v, e1, rd⟩ := sl' j d e
          exact ⟨v, e1, ((rd.mono st2).mono st4).turn⟩
      refine ⟨gb.B, S', H'', _, _, S', _, rd2, rl, hw, fun ρ2 σ2 r2 hwp q2 => ⟨(hwp is fun i hi => hi).trans wipe_wipe, gb.B, S', H'', ρ2, S', _, r2, q2, fun b S3 H3 rs3 st3 q3 => ?_⟩⟩
      have hp3 : H3 p = some (.lst vs) := (st3 p _ hp2 hsp).1
      have hsp3 : S3 p = none := (st3 p _ hp2 hsp).2
      cases b with
      | true =>
        refine ⟨gb.B, S', H'', ρ2, S3, _, r2.step rs3 st3, q3, fun v y S4 H4 rd4 rs4 st4 q4 => ?_⟩
        have hp4 : H4 p = some (.lst vs) := (st4 p _ hp3 hsp3).1
        refine ⟨vs, hp4, by rw [← racc.length]; exact lim_size' q4.1, next S4 H4 (acc ++ [y]) (vs ++ [v]) rs4 (st3.trans st4) hp4 ?_ q4.2⟩
        exact ((((racc.mono st2).mono st3).mono st4).append (RDs.cons rd4 RDs.nil)).turn
      | false =>
        have e3 : upd H3 p (.lst vs) = H3 := by
          funext a
          by_cases ha : a = p
          · subst ha; rw [upd_same, hp3]
          · rw [upd_ne ha]
        have := next S3 H3 acc vs rs3 st3 hp3 (by rw [e3]; exact (racc.mono st2).mono st3) q3
        rw [e3] at this
        exact this
    · left
      have he : i = ds.length := by omega
      rw [he, List.drop_length] at hw
      unfold wLc at hw
      refine ⟨hstop i he, ?_⟩
      have q : newL fz acc S' Qd := hw.2
      unfold newL at q
      by_cases hf : fz = true
      · rw [if_pos hf] at q
        refine kk (.ref p) (.lst acc) S' H' ?_ rs'.idle (st1.trans st') q
        unfold RD
        exact ⟨p, vs, rfl, hsp, hb, .inl hpv, racc.idle⟩
      · rw [if_neg hf] at q
        refine kk (.ref p) (.obj p) _ H' rd_obj (rs'.adopt (o := .lst acc) (fun b z => by rw [hpv] at z; cases z) hb ⟨vs, hpv, racc.adopt⟩) (st1.trans fun a o ha hs => ?_) (q p hsp)
        have h3 := st' a o ha hs
        exact ⟨h3.1, by rw [Sto.set_ne (ne_of_none ha hp)]; exact h3.2⟩
theorem lc_read {K : PySem.W.Frag} {mg : Str → Option Value} {B : List Addr} {fz : Bool} {is : List Nat} {wi : Sl → Sto → (List D → (Sto → Prop) → Sto → Prop) → Prop} {wg : D → Sl → (Sl → Prop) → Prop} {wt : Sl → Sto → (Bool → Sto → Prop) → Prop} {we : Sl → Sto → QV → Prop} {σ : L2.St} {H : Hp} {Q : VK}
    (h : RE ⟨K, mg, B⟩ S0 H0 (fun ρ S Q => wi ρ S fun ds same S1 => wLc wg wt we same (wipeD ρ is) ds [] S1 fun ys S2 => newL fz ys S2 Q) σ H Q) :
    tLc (RI ⟨K, mg, B⟩ S0 H0 wi) (RGa K mg wg is) (RTa K mg wt) (REa K mg we) is σ H Q := by
  obtain ⟨ρ, S, Qi, r, q, kk⟩ := lc_readZ (Z := fun _ => True) (fun _ _ _ => trivial) h
  exact ⟨ρ, S, Qi, r, q, fun ds same S1 H1 J rs st it q D hD => by
    obtain ⟨W, w0, _, w⟩ := kk ds same S1 H1 J rs st it q D hD
    exact ⟨W, w0, w⟩⟩
/-! ### dict comprehensions -/
theorem wDc_same {set : D → Sl → (Sl → Prop) → Prop} {test : Sl → Sto → (Bool → Sto → Prop) → Prop} {kx vx : Sl → Sto → QV → Prop} {same : Sto → Prop} {ρ : Sl} {ds : List D} {acc : List (D × D)} {S : Sto} {Q : List (D × D) → Sto → Prop} (h : wDc set test kx vx same ρ ds acc S Q) : same S := by
  cases ds <;> (unfold wDc at h; exact h.1)
theorem RKs.append {S : Sto} {H : Hp} : ∀ {a b : List (D × D)} {x y : List (Key × V)}, RKs g S H a x → RKs g S H b y → RKs g S H (a ++ b) (x ++ y)
  | [], b, x, y, h, k => by
    have e : x = [] := h
    subst e
    exact k
  | (d, e) :: a, b, x, y, ⟨q, v, r, e', hk, h1, h2⟩, k => by
    subst e'
    exact ⟨q, v, r ++ y, rfl, hk, h1, RKs.append h2 k⟩
theorem putKD_put {S : Sto} {H : Hp} {k d : D} {q : Key} {v : V} (hq : toKey k = some q) (rd : RD g S H d v) {kvs : List (D × D)} {gs : List (Key × V)} (r : RKs g S H kvs gs) : RKs g S H (putKD kvs k d) (putK gs q v) := by
  have any : ∀ {kvs : List (D × D)} {gs : List (Key × V)}, RKs g S H kvs gs → kvs.any (keyB k) = gs.any (fun p => decide (p.1 = q)) := by
    intro kvs
    induction kvs with
    | nil => intro gs r; have e : gs = [] := r; subst e; rfl
    | cons p kvs ih =>
      obtain ⟨x, y⟩ := p
      rintro gs ⟨q', v', gs', rfl, hk, r1, r2⟩
      rw [List.any_cons, List.any_cons, ih r2]
      congr 1
      unfold keyB
      rw [hk, hq]
      exact decide_eq_decide.mpr ⟨fun e => Option.some.inj e, fun e => congrArg some e⟩
  have mp : ∀ {kvs : List (D × D)} {gs : List (Key × V)}, RKs g S H kvs gs → RKs g S H (kvs.map fun p => if keyB k p = true then (p.1, d) else p) (gs.map fun p => if p.1 = q then (p.1, v) else p) := by
    intro kvs
    induction kvs with
    | nil => intro gs r; have e : gs = [] := r; subst e; rfl
    | cons p kvs ih =>
      obtain ⟨x, y⟩ := p
      rintro gs ⟨q', v', gs', rfl, hk, r1, r2⟩
      rw [List.map_cons, List.map_cons]
      by_cases e : q' = q
      · have e1 : keyB k (x, y) = true := by unfold keyB; rw [decide_eq_true_eq]; rw [hk, hq, e]
        rw [if_pos e1, if_pos e]
        exact ⟨q', v, _, rfl, hk, rd, ih r2⟩
      · have e1 : ¬ keyB k (x, y) = true := by unfold keyB; rw [decide_eq_true_eq]; rw [hk, hq]; exact fun z => e (Option.some.inj z)
        rw [if_neg e1, if_neg e]
        exact ⟨q', v', _, rfl, hk, r1, ih r2⟩
  unfold putKD putK
  rw [any r]
  split
  · exact mp r
  · exact r.append ⟨q, v, [], rfl, hq, rd, rfl⟩
theorem RKs.length {S : Sto} {H : Hp} : ∀ {a : List (D × D)} {x : List (Key × V)}, RKs g S H a x → a.length = x.length
  | [], x, h => by
    have e : x = [] := h
    subst e
    rfl
  | (d, e) :: a, x, ⟨q, v, r, e', hk, h1, h2⟩ => by
    subst e'
    rw [List.length_cons, List.length_cons, RKs.length h2]
theorem RKs.unzip {S : Sto} {H : Hp} : ∀ {a : List (D × D)} {x : List (Key × V)}, RKs g S H a x → x = (x.map (·.1)).zip (x.map (·.2)) ∧ (a.map (·.1)).map toKey = (x.map (·.1)).map some ∧ RDs g S H (a.map (·.2)) (x.map (·.2))
  | [], x, h => by
    have e : x = [] := h
    subst e
    exact ⟨rfl, rfl, RDs.nil⟩
  | (d, e) :: a, x, ⟨q, v, r, e', hk, h1, h2⟩ => by
    subst e'
    obtain ⟨i1, i2, i3⟩ := RKs.unzip h2
    refine ⟨congrArg ((q, v) :: ·) i1, ?_, RDs.cons h1 i3⟩
    show toKey d :: _ = some q :: _
    rw [hk, i2]
theorem dc_read {K : PySem.W.Frag} {mg : Str → Option Value} {B : List Addr} {fz : Bool} {is : List Nat} {wi : Sl → Sto → (List D → (Sto → Prop) → Sto → Prop) → Prop} {wg : D → Sl → (Sl → Prop) → Prop} {wt : Sl → Sto → (Bool → Sto → Prop) → Prop} {wk we : Sl → Sto → QV → Prop} {σ : L2.St} {H : Hp} {Q : VK}
    (h : RE ⟨K, mg, B⟩ S0 H0 (fun ρ S Q => wi ρ S fun ds same S1 => wDc wg wt wk we same (wipeD ρ is) ds [] S1 fun kvs S2 => ∀ a, S2 a = none → newDc fz a kvs S2 Q) σ H Q) :
    tDc (RI ⟨K, mg, B⟩ S0 H0 wi) (RGa K mg wg is) (RTa K mg wt) (REa K mg wk) (REa K mg we) is σ H Q := by
  obtain ⟨ρ, S, Qd, r, h, kk⟩ := h
  refine ⟨ρ, S, _, r, h, fun ds same S1 H1 J rs1 st1 itr q1 p hp => ?_⟩
  let gb : Gx := Gx.busy ⟨K, mg, B⟩ p
  have r1 := (r.step rs1 st1).wipe is
  refine ⟨fun i m H' => ∃ S' acc vs, m = ds.length - i ∧ i ≤ ds.length ∧ RS gb S' H' ∧ Step S1 H1 S' H' ∧ H' p = some (.dK vs) ∧ RKs gb S' H' acc vs ∧ ItR gb J ds same S' H' ∧
    (∀ (j : Nat) (d : D), (wipeD ρ is)[j]? = some (some d) → ∃ v, (wipe σ is)[j]? = some (some v) ∧ RD gb S' H' d v) ∧ wDc wg wt wk we same (wipeD ρ is) (ds.drop i) acc S' fun kvs S2 => ∀ a, S2 a = none → newDc fz a kvs S2 Qd, ?_, ?_⟩
  · refine ⟨_, S1, [], [], rfl, Nat.zero_le _, rs1.busy hp, (rs1.frozen hp).2, upd_same, rfl, itr.busy hp, fun j d e => ?_, q1⟩
    obtain ⟨v, e1, rd⟩ := r1.sl j d e
    exact ⟨v, e1, rd.busy hp⟩
  · rintro i m H' ⟨S', acc, vs, rfl, hi, rs', st', hpv, racc, itr', sl', hw⟩
    have hb : p ∉ B := rs1.fresh hp
    have hsp : S' p = none := (rs'.2 p (List.mem_cons_self ..)).1
    obtain ⟨hgo, hstop⟩ := itr'.get rs'
    by_cases hlt : i < ds.length
    · right
      have hd : ds[i]? = some ds[i] := List.getElem?_eq_getElem hlt
      rw [List.drop_eq_getElem_cons hlt] at hw
      unfold wDc at hw
      obtain ⟨hsame, hw⟩ := hw
      refine ⟨(hgo i _ hd).1, _, fun H'' h => h, fun x H'' hy => ?_⟩
      obtain ⟨rs2, st2, rd2⟩ := (hgo i _ hd).2 x H'' hy
      have rl : Rl gb S' H'' (wipeD ρ is) S' (wipe σ is) H'' := ⟨r1.len, fun j d e => by obtain ⟨v, e1, rd⟩ := sl' j d e; exact ⟨v, e1, rd.mono st2⟩, rs2, Step.refl _ _⟩
      have hp2 : H'' p = some (.dK vs) := (st2 p _ hpv hsp).1
      have next : ∀ S4 H4 acc' vs', RS gb S4 H4 → Step S' H'' S4 H4 → H4 p = some (.dK vs) → RKs gb S4 (upd H4 p (.dK vs')) acc' vs' → wDc wg wt wk we same (wipeD ρ is) (ds.drop (i + 1)) acc' S4 (fun kvs S2 => ∀ a, S2 a = none → newDc fz a kvs S2 Qd) →
          ∃ m', m' < ds.length - i ∧ ∃ S' acc vs, m' = ds.length - (i + 1) ∧ i + 1 ≤ ds.length ∧ RS gb S' (upd H4 p (.dK vs')) ∧ Step S1 H1 S' (upd H4 p (.dK vs')) ∧ (upd H4 p (.dK vs')) p = some (.dK vs) ∧ RKs gb S' (upd H4 p (.dK vs')) acc vs ∧ ItR gb J ds same S' (upd H4 p (.dK vs')) ∧
    (∀ (j : Nat) (d : D), (wipeD ρ is)[j]? = some (some d) → ∃ v, (wipe σ is)[j]? = some (some v) ∧ RD gb S' (upd H4 p (.dK vs')) d v) ∧ wDc wg wt wk we same (wipeD ρ is) (ds.drop (i + 1)) acc S' fun kvs S2 => ∀ a, S2 a = none → newDc fz a kvs S2 Qd := by
        intro S4 H4 acc' vs' rs4 st4 hp4 racc' hw4
        refine ⟨_, by omega, S4, acc', vs', rfl, hlt, rs4.turn (fun b z => by rw [hp4] at z; cases z), ?_, upd_same, racc', ((itr'.step (st2.trans st4) (wDc_same hw4))).turn, fun j d e => ?_, hw4⟩
        · intro a o ha hs
          have h3 := (st'.trans (st2.trans st4)) a o ha hs
          exact ⟨by rw [upd_ne (ne_of_none ha hp)]; exact h3.1, h3.2⟩
        · obtain ⟨v, e1, rd⟩ := sl' j d e
          exact ⟨v, e1, ((rd.mono st2).mono st4).turn⟩
      refine ⟨gb.B, S', H'', _, _, S', _, rd2, rl, hw, fun ρ2 σ2 r2 hwp q2 => ⟨(hwp is fun i hi => hi).trans wipe_wipe, gb.B, S', H'', ρ2, S', _, r2, q2, fun b S3 H3 rs3 st3 q3 => ?_⟩⟩
      have hp3 : H3 p = some (.dK vs) := (st3 p _ hp2 hsp).1
      have hsp3 : S3 p = none := (st3 p _ hp2 hsp).2
      cases b with
      | true =>
        refine ⟨gb.B, S', H'', ρ2, S3, _, r2.step rs3 st3, q3, fun v x4 S4 H4 rd4 rs4 st4 q4 => ⟨gb.B, S', H'', ρ2, S4, _, (r2.step rs3 st3).step rs4 st4, q4, fun u y S5 H5 rd5 rs5 st5 q5 => ?_⟩⟩
        obtain ⟨hk, hl, q5⟩ := q5
        obtain ⟨q, hq⟩ := Option.isSome_iff_exists.mp hk
        have hp4 : H4 p = some (.dK vs) := (st4 p _ hp3 hsp3).1
        have hsp4 : S4 p = none := (st4 p _ hp3 hsp3).2
        have hp5 : H5 p = some (.dK vs) := (st5 p _ hp4 hsp4).1
        refine ⟨vs, q, key_rd (rd4.mono st5) hq, hp5, by rw [← racc.length]; exact lim_size' hl, next S5 H5 _ _ rs5 ((st3.trans st4).trans st5) hp5 ?_ q5⟩
        exact RKs.via (g := gb) (g' := gb) (fun d v => RD.turn (g := ⟨K, mg, B⟩) (p := p) d v) (putKD_put hq rd5 ((((racc.mono st2).mono st3).mono st4).mono st5))
      | false =>
        have e3 : upd H3 p (.dK vs) = H3 := by
          funext a
          by_cases ha : a = p
          · subst ha; rw [upd_same, hp3]
          · rw [upd_ne ha]
        have := next S3 H3 acc vs rs3 st3 hp3 (by rw [e3]; exact (racc.mono st2).mono st3) q3
        rw [e3] at this
        exact this
    · left
      have he : i = ds.length := by omega
      rw [he, List.drop_length] at hw
      unfold wDc at hw
      refine ⟨hstop i he, ?_⟩
      have q : newDc fz p acc S' Qd := hw.2 p hsp
      unfold newDc at q
      by_cases hf : fz = true
      · rw [if_pos hf] at q
        have ed : S'.del p = S' := by
          funext a
          unfold Sto.del
          split
          · rename_i z; rw [z, hsp]
          · rfl
        rw [ed] at q
        obtain ⟨u1, u2, u3⟩ := RKs.unzip racc
        refine kk (.ref p) (.dct (acc.map (·.1)) (acc.map (·.2))) S' H' ?_ rs'.idle (st1.trans st') q
        unfold RD
        exact ⟨p, vs.map (·.1), vs.map (·.2), rfl, ⟨hsp, hb, by rw [← u1]; exact hpv⟩, u2, by rw [List.length_map, List.length_map], u3.idle⟩
      · rw [if_neg hf] at q
        refine kk (.ref p) (.obj p) _ H' rd_obj (rs'.adopt (o := .dct acc) (fun b z => by rw [hpv] at z; cases z) hb ⟨vs, hpv, racc.via fun d v => RD.adopt d v⟩) (st1.trans fun a o ha hs => ?_) q
        have h3 := st' a o ha hs
        exact ⟨h3.1, by rw [Sto.set_ne (ne_of_none ha hp)]; exact h3.2⟩
end
end G
/-! GT: sorted(set(x)) of lists, tuples, texts. -/
namespace G
open PySem L2 PyProof.Rows
section
variable {P : Program} {w : World} {A : Around} {E : Value → Shared → Prop} {s : Shared} {κ : Type} [DecidableEq κ] {knd : PySem.KeyKind P w κ}
theorem ssrc_list {h0 : Heap} {l : Addr} {items : List Value} {ks : List κ} (hl : h0.IsList l items.toArray) (hn : items.length = ks.length) (hb : ks.length + 1 < scanBound)
    (hval : ∀ (i : Nat) (v : Value), items[i]? = some v → ∃ k, ks[i]? = some k ∧ knd.is k v = true ∧ v.scannable = true) : SSrc P w E knd h0 (.ref l) ks := by
  have hlt : l < h0.objs.size := by obtain ⟨o, ho, _⟩ := hl; exact Heap.lt_size ho
  refine ssrc_walk (o := { cls := .type "list_iterator", data := .fields #[.ref l, .int 0 0] }) (ax := [l]) (Pv := fun i v => items.toArray[i]? = some v) (St := fun I i h => h.IsListIter I l i ∧ h.IsList l items.toArray)
    (fun b hb => by rw [List.mem_singleton] at hb; subst hb; exact hlt) rfl (fun A' s' Q' ext q => wpAny_pyIter_list (hl.at fun o e => ext l o e) q) (fun A' I hh hI => ?_) (fun h' I ext e => ⟨⟨_, e, rfl, rfl⟩, hl.at fun o e => ext l o e⟩) hb
    (fun i v e => hval i v (by simpa using e))
  have hsz : items.toArray.size = ks.length := by simpa using hn
  rw [← hsz]
  exact Walks.list hh I l (fun e => hI (by simp [e])) items.toArray
theorem ssrc_tuple {h0 : Heap} {l : Addr} {items : List Value} {ks : List κ} (hl : h0.IsTuple l items.toArray) (hn : items.length = ks.length) (hb : ks.length + 1 < scanBound)
    (hval : ∀ (i : Nat) (v : Value), items[i]? = some v → ∃ k, ks[i]? = some k ∧ knd.is k v = true ∧ v.scannable = true) : SSrc P w E knd h0 (.ref l) ks := by
  have hlt : l < h0.objs.size := by obtain ⟨o, ho, _⟩ := hl; exact Heap.lt_size ho
  refine ssrc_walk (o := { cls := .type "tuple_iterator", data := .fields #[.ref l, .int 0 0] }) (ax := [l]) (Pv := fun i v => items.toArray[i]? = some v) (St := fun I i h => h.IsTupleIter I l i ∧ h.IsTuple l items.toArray)
    (fun b hb => by rw [List.mem_singleton] at hb; subst hb; exact hlt) rfl (fun A' s' Q' ext q => wpAny_pyIter_tuple (hl.at fun o e => ext l o e) q) (fun A' I hh hI => ?_) (fun h' I ext e => ⟨⟨_, e, rfl, rfl⟩, hl.at fun o e => ext l o e⟩) hb
    (fun i v e => hval i v (by simpa using e))
  have hsz : items.toArray.size = ks.length := by simpa using hn
  rw [← hsz]
  exact Walks.tuple hh I l (fun e => hI (by simp [e])) items.toArray
theorem ssrc_str {h0 : Heap} {x : Str} {t : Tok} (hb : x.cps.size + 1 < scanBound) : SSrc P w E (PySem.strKind P w) h0 (.str x t) (x.cps.toList.map fun c => mkS [c]) := by
  have hsz : x.cps.size = (x.cps.toList.map fun c => mkS [c]).length := by simp
  have hv : ∀ i v, SignAt x i v → ∃ k, (x.cps.toList.map fun c => mkS [c])[i]? = some k ∧ (PySem.strKind P w).is k v = true ∧ v.scannable = true := by
    intro i v hv
    obtain ⟨c, tk, hc, rfl⟩ := hv
    refine ⟨mkS [c], ?_, ?_, rfl⟩
    · rw [List.getElem?_map, Array.getElem?_toList, hc]; rfl
    · exact strKind_is _ _ _ _
  have go : ∀ n : String, x.cps.all (· < 128) = (n == "str_ascii_iterator") → (n = "str_ascii_iterator" ∨ n = "str_iterator") → SSrc P w E (PySem.strKind P w) h0 (.str x t) (x.cps.toList.map fun c => mkS [c]) := by
    intro n ha hn
    refine ssrc_walk (o := { cls := .type n, data := .fields #[.str x t, .int 0 0] }) (ax := []) (Pv := SignAt x) (St := fun I i h => h.IsStrIter I n x t i) (fun b hb => by cases hb) rfl (fun A' s' Q' ext q => ?_) (fun A' I hh hI => ?_)
      (fun h' I ext e => ⟨_, e, rfl, rfl⟩) (by rw [← hsz]; exact hb) hv
    · rcases hn with rfl | rfl
      · exact wpAny_pyIter_ascii (by rw [ha]; rfl) q
      · exact wpAny_pyIter_wide (by rw [ha]; rfl) q
    · rw [← hsz]
      rcases hn with rfl | rfl
      · exact Walks.strAscii hh I x t
      · exact Walks.strWide hh I x t
  cases ha : x.cps.all (· < 128)
  · exact go "str_iterator" (by rw [ha]; rfl) (.inr rfl)
  · exact go "str_ascii_iterator" (by rw [ha]; rfl) (.inl rfl)
theorem strs_of {vs : List Value} : (∀ v ∈ vs, ∃ x t, v = .str x t) → ∃ xs, StrsAre vs xs := by
  induction vs with
  | nil => exact fun _ => ⟨[], .nil⟩
  | cons v vs ih =>
    intro h
    obtain ⟨x, t, rfl⟩ := h v (by simp)
    obtain ⟨xs, hx⟩ := ih fun u hu => h u (by simp [hu])
    exact ⟨x :: xs, .cons x t hx⟩
theorem strs_mem {k : Str} {t : Tok} : ∀ {vs : List Value} {xs : List Str}, StrsAre vs xs → Value.str k t ∈ vs → k ∈ xs
  | _, _, .nil, h => by cases h
  | _, _, .cons x u r, h => by
    rcases List.mem_cons.mp h with e | h
    · cases e; simp
    · exact List.mem_cons_of_mem _ (strs_mem r h)
theorem perm_of_sub {α : Type} [DecidableEq α] : ∀ {l m : List α}, l.Nodup → (∀ x ∈ l, x ∈ m) → m.length = l.length → m.Perm l
  | [], m, _, _, hl => by
    rw [List.length_nil, List.length_eq_zero_iff] at hl
    rw [hl]
  | x :: l, m, nd, hs, hl => by
    have hx := hs x (by simp)
    have p := List.perm_cons_erase hx
    rw [List.nodup_cons] at nd
    refine p.trans ((perm_of_sub nd.2 (fun y hy => ?_) ?_).cons x)
    · have := p.mem_iff.mp (hs y (by simp [hy]))
      rcases List.mem_cons.mp this with e | e
      · subst e; exact absurd hy nd.1
      · exact e
    · have := p.length_eq
      simp only [List.length_cons] at this hl
      omega
/-- sorted(a) of a set of texts -/
theorem sorted_sgS {a : Addr} {l : List Str} {Q : Value → Shared → Prop} (R : SG (PySem.strKind P w) s.heap a l) (hh : A.handled = none)
    (hQ : ∀ s' p (out : Array Value) (c : Nat) (ss : List Str), (∀ b o, s.heap.get? b = some o → s'.heap.get? b = some o) → s'.gens = s.gens → s'.os = s.os → s.heap.objs.size ≤ p →
      s'.heap.get? p = some (seqObj "list" out c) → StrsAre out.toList ss → sortedS ss = true → ss.Perm l → ss.Nodup → ss.length < scanBound → Q (.ref p) s') :
    wpAny (model P w) A (call (.builtin "sorted") [.ref a]) Q E s := by
  obtain ⟨o, es, ep, t, ho, hex, hd, el, hm, hn, nd, hb, hf, hr, hl⟩ := R
  refine Calls.call_function_entry kind_sorted plain_sorted entry_sorted (args_sorted1 _) ?_
  unfold Builtin.«sorted»
  refine wpAny_bind (m := checkCount "sorted" 1 1 _) (wpAny_pure ?_)
  refine wpAny_bind (collect_set (A := A.in1) hh ⟨o, ho, hex.1, hd⟩ hf hb hr hl fun s1 vs k1 hz g1 o1 pm => ?_)
  have hvl : vs.length = l.length := by rw [pm.length_eq, List.length_map, Array.length_toList]; exact hn
  have hsh : ∀ v ∈ vs, ∃ k t, v = .str k t ∧ k ∈ l := fun v hv => by
    obtain ⟨e, he, rfl⟩ := List.mem_map.mp (pm.mem_iff.mp hv)
    obtain ⟨⟨k, hk, _⟩, _⟩ := el e he
    obtain ⟨t, ev⟩ := Value.isStrOf_shape (x := k) (v := e.2) hk
    exact ⟨k, t, ev, (hm k).mpr ⟨e, he, hk⟩⟩
  obtain ⟨xs, hS⟩ := strs_of fun v hv => let ⟨k, t, e, _⟩ := hsh v hv; ⟨k, t, e⟩
  have hb' : vs.length < scanBound := by rw [hvl, ← hn]; exact hb
  have hsz : vs.length ≤ sizeLine := Nat.le_trans (Nat.le_of_lt hb') (by decide)
  have hxl : xs.length = vs.length := (StrsAre.length hS).symm
  have pl : xs.Perm l := by
    refine perm_of_sub nd (fun k hk => ?_) (by omega)
    obtain ⟨e, he, hk'⟩ := (hm k).mp hk
    obtain ⟨t, ev⟩ := Value.isStrOf_shape (x := k) (v := e.2) hk'
    have hv : Value.str k t ∈ vs := pm.mem_iff.mpr (List.mem_map.mpr ⟨e, he, ev⟩)
    exact strs_mem hS hv
  refine wpAny_bind (wpAny_newList ?_ hsz)
  have hoL : (s1.heap.push (seqObj "list" vs.toArray 0)).get? s1.heap.objs.size = some (seqObj "list" vs.toArray 0) := Heap.get?_push_size _ rfl
  refine wpAny_bind (wpAny_holding (wpAny_call_entry slot_list_sort ⟨_, hoL, rfl⟩ entry_list_sort
    (list_sort_treeKAny strKind_oneLt (s := { s1 with heap := s1.heap.push (seqObj "list" vs.toArray 0) }) hoL hS.keysOf (fun v₁ v₂ rest e => keyKind_strs (by rw [← e]; exact hS)) hsz fun st' hp hs => ⟨_, rfl, ?_⟩) (args_list_sort _)))
  obtain ⟨ys, g1', g2, g3⟩ := sorted_out_str hS hp hs
  obtain ⟨c, hc⟩ := sortedHeap_at (vs := vs) (out := (arrOf st').map (·.2)) hoL
  have pn : ys.Perm l := g2.trans pl
  refine wpAny_pure ⟨_, rfl, hQ _ s1.heap.objs.size _ c ys (fun b u e => ?_) g1 o1 hz hc g1' g3 pn (pn.nodup_iff.mpr nd) (by rw [pn.length_eq, ← hvl]; exact hb')⟩
  have q := k1 b u e
  have hlt := Heap.lt_size q
  show (sortedHeap (s1.heap.push (seqObj "list" vs.toArray 0)) s1.heap.objs.size vs _).get? b = some u
  rw [sortedHeap_old (Nat.ne_of_lt hlt) (by rw [size_push']; exact Nat.lt_succ_of_lt hlt)]
  exact Heap.get?_push_of_some _ q
end
section
variable {X : Cx}
def tSset (K : PySem.W.Frag) (ta : TE) : TE := fun σ H Q => ta σ H fun x H1 => (∃ (r : Sr) (xs : List Str), x = r.val ∧ r.has K H1 (xs.map V.str) ∧ xs.length < 4000 ∧
    ∀ (ss : List Str) (p : Addr), sortedS ss = true → ss.Nodup → (∀ k, k ∈ ss ↔ k ∈ xs) → H1 p = none → Q (.ref p) (upd H1 p (.lst (ss.map V.str)))) ∨
  ∃ (a : Addr) (ns : List Int), x = .ref a ∧ (SqL K H1 a (ns.map V.int) ∨ SqT K H1 a (ns.map V.int)) ∧ smI ns ∧
    ∀ (ms : List Int) (p : Addr), ms.Pairwise (· < ·) → (∀ k, k ∈ ms ↔ k ∈ ns) → H1 p = none → Q (.ref p) (upd H1 p (.lst (ms.map V.int)))
theorem nodup_le {α : Type} [DecidableEq α] : ∀ {l m : List α}, l.Nodup → (∀ x ∈ l, x ∈ m) → l.length ≤ m.length
  | [], m, _, _ => Nat.zero_le _
  | x :: l, m, nd, hs => by
    have hx := hs x (by simp)
    rw [List.nodup_cons] at nd
    have p := List.perm_cons_erase hx
    have ih := nodup_le (l := l) (m := m.erase x) nd.2 fun y hy => by
      rcases List.mem_cons.mp (p.mem_iff.mp (hs y (by simp [hy]))) with e | e
      · subst e; exact absurd hy nd.1
      · exact e
    rw [p.length_eq, List.length_cons, List.length_cons]
    omega
/-- a set of ints, as the kit tells it -/
theorem setR_of {P : Program} {w : World} {h : Heap} {a : Addr} {l : List Int} (R : SG (PySem.intKind P w) h a l) : SetR w h a (fun k => decide (k ∈ l)) l.length := by
  obtain ⟨o, es, ep, t, ho, hex, hd, el, hm, hn, nd, hb, hf, hr, hl⟩ := R
  have sh : ∀ e ∈ es.toList, ∃ k tk, e.2 = Value.int k tk ∧ e.1 = hashInt k := fun e he => by
    obtain ⟨⟨k, hk, hh⟩, _⟩ := el e he
    obtain ⟨tk, ev⟩ := Value.isInt_shape (k := k) (v := e.2) hk
    exact ⟨k, tk, ev, hh⟩
  have mk : ∀ k, k ∈ l ↔ k ∈ es.toList.map keyOf := fun k => by
    rw [hm k, List.mem_map]
    constructor
    · rintro ⟨e, he, hk⟩
      obtain ⟨tk, ev⟩ := Value.isInt_shape (k := k) (v := e.2) hk
      exact ⟨e, he, by unfold keyOf; rw [ev]⟩
    · rintro ⟨e, he, rfl⟩
      obtain ⟨k, tk, ev, _⟩ := sh e he
      refine ⟨e, he, ?_⟩
      have : keyOf e = k := by unfold keyOf; rw [ev]
      rw [this, ev]
      exact intKind_is P w k tk
  have pm : (es.toList.map keyOf).Perm l := perm_of_sub nd (fun x hx => (mk x).mp hx) (by rw [List.length_map, Array.length_toList]; exact hn)
  exact ⟨o, es, ep, t, ho, hex, hd, sh, pm.nodup_iff.mpr nd, fun k => by rw [decide_eq_true_eq]; exact mk k, hb, hf, hn, hr, hl⟩
theorem ints_val {ys : List Int} {us : List Value} (r : Vals (ys.map V.int) us) : us.length = ys.length ∧ ∀ (i : Nat) (v : Value), us[i]? = some v → ∃ k, ys[i]? = some k ∧ (∃ t, v = .int k t) := by
  induction ys generalizing us with
  | nil => cases r; exact ⟨rfl, fun i v e => by simp at e⟩
  | cons y ys ih =>
    cases r with
    | cons r0 r1 =>
      obtain ⟨t, rfl⟩ := r0
      obtain ⟨i1, i2⟩ := ih r1
      refine ⟨by simp [i1], fun i v e => ?_⟩
      cases i with
      | zero => simp at e; subst e; exact ⟨y, rfl, t, rfl⟩
      | succ i => exact i2 i v (by simpa using e)
theorem boot_st : bootBuiltins "set" = some (.type "set") := by decide +kernel
theorem boot_so : bootBuiltins "sorted" = some (.builtin "sorted") := by decide +kernel
theorem sub_no1 (T : String) (h : T = "list" ∨ T = "tuple" ∨ T = "str") : isSubtype (.type T) (.type "set") = pure false := by
  rcases h with rfl | rfl | rfl <;> (rw [isSubtype_type]; kernel_rfl)
theorem sub_no2 (T : String) (h : T = "list" ∨ T = "tuple" ∨ T = "str") : isSubtype (.type T) (.type "frozenset") = pure false := by
  rcases h with rfl | rfl | rfl <;> (rw [isSubtype_type]; kernel_rfl)
theorem sub_no3 (T : String) (h : T = "list" ∨ T = "tuple" ∨ T = "str") : (Value.type T == Value.type "dict") = false := by
  rcases h with rfl | rfl | rfl <;> decide
theorem strs_val {ys : List Str} {us : List Value} (r : Vals (ys.map V.str) us) : us.length = ys.length ∧ ∀ (i : Nat) (v : Value), us[i]? = some v → ∃ k, ys[i]? = some k ∧ (∃ t, v = .str k t) := by
  induction ys generalizing us with
  | nil => cases r; exact ⟨rfl, fun i v e => by simp at e⟩
  | cons y ys ih =>
    cases r with
    | cons r0 r1 =>
      obtain ⟨t, rfl⟩ := r0
      obtain ⟨i1, i2⟩ := ih r1
      refine ⟨by simp [i1], fun i v e => ?_⟩
      cases i with
      | zero => simp at e; subst e; exact ⟨y, rfl, t, rfl⟩
      | succ i => exact i2 i v (by simpa using e)
theorem pe_sset {a : Expr} {ta : TE} {p p2 q pos : Pos} (hc : X.calm = true) (hg : Gl X "sorted") (hm : X.mg "sorted" = none) (hg2 : Gl X "set") (hm2 : X.mg "set" = none) (ha : PE X a ta)
    (na : starEach [a] X.env = (false, eval a X.env) :: starEach [] X.env) : PE X (.Call (.Name "sorted" p) [.Call (.Name "set" p2) [a] [] q] [] pos) (tSset X.K ta) := by
  refine ⟨fun pins s σ H Q I h => ?_⟩
  refine Call_ (ld_blt I hg hm boot_so ?_)
  refine callWith_builtin1 (args_cons ?_ rfl) rfl rfl
  refine Call_ (ld_blt I hg2 hm2 boot_st ?_)
  refine callWith_type1 (args_cons (thn (ha.run pins s σ H _ I h) fun v s1 ⟨x, H1, I1, r1, q1⟩ => args_nil ?_) na) na rfl
  have hd := I1.ok.hd hc
  rcases q1 with ⟨r, xs, rfl, hx, hl, q1⟩ | ⟨a, ns, rfl, hx, hl, q1⟩
  case inr =>
    cases r1
    have fin : ∀ (h' : Heap) (tk : Nat) (l : List Int), SG (PySem.intKind X.prog X.w) h' s1.heap.objs.size l → (∀ x, x ∈ l ↔ x ∈ ns) → (∀ b o, s1.heap.get? b = some o → h'.get? b = some o) →
        wpAny (model X.prog X.w) X.A (spliced (backTo pos (starEach [] X.env))) (fun vs s₂ => wpAny (model X.prog X.w) X.A (call (.builtin "sorted") (Value.ref s1.heap.objs.size :: vs)) (EP X pins σ Q) X.xe s₂) X.xe { s1 with heap := h', toks := tk } := by
      intro h' tk l hS hxl hk
      have ln : l.length ≤ (sortI ns).length := by
        obtain ⟨_, _, _, _, _, _, _, _, _, _, nd, _⟩ := hS
        exact nodup_le nd fun x hx => mem_sortI.mpr ((hxl x).mp hx)
      have h64 := hl.2
      refine args_nil (sorted_set (s := { s1 with heap := h', toks := tk }) (setR_of hS) hd (Nat.lt_of_le_of_lt ln hl.2) fun s' p out c ms k g o hp hgp hi hs hm hlen => ?_)
      have hlt : s1.heap.objs.size < h'.objs.size := by obtain ⟨o, _, _, _, ho, _⟩ := hS; exact Heap.lt_size ho
      have hz : (ms.map V.int).length ≤ sizeLine := by rw [List.length_map, hlen, sizeLine_eq]; omega
      have hn : H1 p = none := I1.hok.fresh (Nat.le_trans (Nat.le_of_lt hlt) hp)
      have J : Inv X pins σ (upd H1 p (.lst (ms.map V.int))) { s1 with heap := s'.heap, gens := s'.gens, drawn := s'.drawn, toks := s'.toks } :=
        I1.call (ch := []) (Un.laid (fun b o e => k b o (hk b o e)) (Nat.le_trans (Nat.le_of_lt hlt) hp) hn) (I1.hok.laid (fun b o e => k b o (hk b o e)) (Nat.le_trans (Nat.le_of_lt hlt) hp) ⟨hz, out.toList, c, vals_of_ints hi, hgp⟩) (by rw [g]; exact I1.bare) (fun _ z => nomatch z)
      have e : s' = { s1 with heap := s'.heap, gens := s'.gens, drawn := s'.drawn, toks := s'.toks } := by
        cases s'
        cases s1
        cases o
        rfl
      rw [e]
      exact ⟨.ref p, _, J, rfl, q1 ms p hs (fun x => by rw [hm, decide_eq_true_eq, hxl]) hn⟩
    have sb : ns.length + 1 < scanBound := by have := hl.1; unfold scanBound; omega
    rcases hx with hx | hx
    · obtain ⟨its, rv, pl, _⟩ := I1.list hx
      obtain ⟨e1, e2⟩ := ints_val rv
      exact call_set_src (T := "list") hd (fun s' ext => (pl.isList.at fun o e => ext _ o e).typeIs) (sub_no1 _ (by simp)) (sub_no2 _ (by simp)) (sub_no3 _ (by simp)) (ssrc_list pl.isList e1 sb fun i v e => let ⟨k, h1, t, h2⟩ := e2 i v e; ⟨k, h1, by rw [h2]; exact ⟨intKind_is _ _ _ _, rfl⟩⟩) fin
    · obtain ⟨its, rv, pl, _⟩ := I1.tuple hx
      obtain ⟨e1, e2⟩ := ints_val rv
      have pl' : s1.heap.IsTuple a its.toArray := pl
      exact call_set_src (T := "tuple") hd (fun s' ext => (pl'.at fun o e => ext _ o e).typeIs) (sub_no1 _ (by simp)) (sub_no2 _ (by simp)) (sub_no3 _ (by simp)) (ssrc_tuple pl' e1 sb fun i v e => let ⟨k, h1, t, h2⟩ := e2 i v e; ⟨k, h1, by rw [h2]; exact ⟨intKind_is _ _ _ _, rfl⟩⟩) fin
  have fin : ∀ (ks : List Str), (∀ k, k ∈ ks ↔ k ∈ xs) → ∀ (h' : Heap) (tk : Nat) (l : List Str), SG (PySem.strKind X.prog X.w) h' s1.heap.objs.size l → (∀ x, x ∈ l ↔ x ∈ ks) → (∀ b o, s1.heap.get? b = some o → h'.get? b = some o) →
      wpAny (model X.prog X.w) X.A (spliced (backTo pos (starEach [] X.env))) (fun vs s₂ => wpAny (model X.prog X.w) X.A (call (.builtin "sorted") (Value.ref s1.heap.objs.size :: vs)) (EP X pins σ Q) X.xe s₂) X.xe { s1 with heap := h', toks := tk } := by
    intro ks hks h' tk l hS hxl hk
    refine args_nil (sorted_sgS (s := { s1 with heap := h', toks := tk }) hS hd fun s' p out c ss k g o hp hgp hi hs pm nd hlen => ?_)
    have I2 : Inv X pins σ H1 { s1 with heap := h', toks := tk } := I1.kept hk
    have hlt : s1.heap.objs.size < h'.objs.size := by obtain ⟨o, _, _, _, ho, _⟩ := hS; exact Heap.lt_size ho
    have hz : (ss.map V.str).length ≤ sizeLine := by rw [List.length_map]; exact Nat.le_trans (Nat.le_of_lt hlen) (by decide)
    have hn : H1 p = none := I1.hok.fresh (Nat.le_trans (Nat.le_of_lt hlt) hp)
    have J : Inv X pins σ (upd H1 p (.lst (ss.map V.str))) { s1 with heap := s'.heap, gens := s'.gens, drawn := s'.drawn, toks := s'.toks } :=
      I1.call (ch := []) (Un.laid (fun b o e => k b o (hk b o e)) (Nat.le_trans (Nat.le_of_lt hlt) hp) hn) (I1.hok.laid (fun b o e => k b o (hk b o e)) (Nat.le_trans (Nat.le_of_lt hlt) hp) ⟨hz, out.toList, c, vals_of_strs hi, hgp⟩) (by rw [g]; exact I1.bare) (fun _ z => nomatch z)
    have e : s' = { s1 with heap := s'.heap, gens := s'.gens, drawn := s'.drawn, toks := s'.toks } := by
      cases s'
      cases s1
      cases o
      rfl
    rw [e]
    exact ⟨.ref p, _, J, rfl, q1 ss p hs nd (fun x => by rw [pm.mem_iff, hxl, hks]) hn⟩
  have sb : xs.length + 1 < scanBound := by unfold scanBound; omega
  cases r with
  | ls a =>
    cases r1
    obtain ⟨its, rv, pl, _⟩ := I1.list hx
    obtain ⟨e1, e2⟩ := strs_val rv
    exact call_set_src (T := "list") hd (fun s' ext => (pl.isList.at fun o e => ext _ o e).typeIs) (sub_no1 _ (by simp)) (sub_no2 _ (by simp)) (sub_no3 _ (by simp)) (ssrc_list pl.isList e1 sb fun i v e => let ⟨k, h1, t, h2⟩ := e2 i v e; ⟨k, h1, by rw [h2]; exact ⟨strKind_is _ _ _ _, rfl⟩⟩)
      fun h' tk l hS hxl hk => fin xs (fun _ => Iff.rfl) h' tk l hS hxl hk
  | tp a =>
    cases r1
    obtain ⟨its, rv, pl, _⟩ := I1.tuple hx
    obtain ⟨e1, e2⟩ := strs_val rv
    have pl' : s1.heap.IsTuple a its.toArray := pl
    exact call_set_src (T := "tuple") hd (fun s' ext => (pl'.at fun o e => ext _ o e).typeIs) (sub_no1 _ (by simp)) (sub_no2 _ (by simp)) (sub_no3 _ (by simp)) (ssrc_tuple pl' e1 sb fun i v e => let ⟨k, h1, t, h2⟩ := e2 i v e; ⟨k, h1, by rw [h2]; exact ⟨strKind_is _ _ _ _, rfl⟩⟩)
      fun h' tk l hS hxl hk => fin xs (fun _ => Iff.rfl) h' tk l hS hxl hk
  | tx z =>
    obtain ⟨t, rfl⟩ := r1
    have hxz : xs = z.cps.toList.map fun c => mkS [c] := by
      have e : xs.map V.str = (z.cps.toList.map fun c => mkS [c]).map V.str := by rw [List.map_map]; exact hx
      exact (List.map_inj_right (fun a b h => by cases h; rfl)).mp e
    have sb' : z.cps.size + 1 < scanBound := by rw [hxz] at sb; simpa using sb
    exact call_set_src (T := "str") hd (fun s' ext => typeIs_str s' z t) (sub_no1 _ (by simp)) (sub_no2 _ (by simp)) (sub_no3 _ (by simp)) (ssrc_str sb') fun h' tk l hS hxl hk => fin _ (fun x => by rw [hxz]) h' tk l hS hxl hk
end
section
variable {T : Tab} {k : Nat} {g : Gx} {X : Cx} {c : Sc} {ex : QE} {S0 : Sto} {H0 : Hp}
theorem rds_strs {S : Sto} {H : Hp} : ∀ {zs : List (List Nat)} {vs : List V}, RDs g S H (zs.map D.str) vs → vs = zs.map (fun z => V.str (mkS z)) ∧ ∀ z ∈ zs, ∀ c ∈ z, c < 0x110000 := by
  intro zs vs r
  obtain ⟨h1, h2⟩ := r.strs
  exact ⟨by rw [h1, List.map_map]; rfl, h2⟩
theorem strs_rds {S : Sto} {H : Hp} : ∀ {zs : List (List Nat)}, (∀ z ∈ zs, ∀ c ∈ z, c < 0x110000) → RDs g S H (zs.map D.str) (zs.map fun z => V.str (mkS z))
  | [], _ => RDs.nil
  | z :: zs, h => RDs.cons (rd_str (h z (by simp))) (strs_rds fun y hy => h y (by simp [hy]))
theorem rising_up : ∀ (p : Str) (l : List Str), risingS p l = true → (p :: l).Nodup → ((p :: l).map fun x => x.cps.toList).Pairwise (· < ·)
  | p, [], _, _ => by simp
  | p, x :: r, h, nd => by
    have hh : (!PySem.Spec.ltCps x.cps.toList p.cps.toList && risingS x r) = true := h
    rw [Bool.and_eq_true] at hh
    obtain ⟨h1, h2⟩ := hh
    rw [List.nodup_cons] at nd
    have ih := rising_up x r h2 nd.2
    rw [ltCps_eq] at h1
    have ne : p.cps.toList ≠ x.cps.toList := fun e => nd.1 (by
      have : p = x := by cases p; cases x; congr 1; exact Array.toList_inj.mp e
      rw [this]; simp)
    have lt : p.cps.toList < x.cps.toList := by
      apply Decidable.byContradiction
      intro z
      exact ne (tx_tri z (by simpa using h1))
    rw [List.map_cons, List.pairwise_cons]
    refine ⟨fun z hz => ?_, ih⟩
    rw [List.map_cons] at hz ih
    rcases List.mem_cons.mp hz with rfl | hz
    · exact lt
    · exact List.lt_trans lt ((List.pairwise_cons.mp ih).1 z hz)
theorem sorted_up {l : List Str} (h : sortedS l = true) (nd : l.Nodup) : (l.map fun x => x.cps.toList).Pairwise (· < ·) := by
  cases l with
  | nil => exact List.Pairwise.nil
  | cons p l => exact rising_up p l h nd
theorem s_sset (gd : Good T k g X c ex S0 H0) (hh : c.hot = false) {fz : Bool} {w : Sl → Sto → QV → Prop} {a : Expr} {p p2 q pos : Pos} (hg : glB (c.kd ("sorted" : Str)) = true) (hg2 : glB (c.kd ("set" : Str)) = true) (hn : noStar a = true) (ha : PE X a (RE g S0 H0 w)) :
    PE X (.Call (.Name "sorted" p) [.Call (.Name "set" p2) [a] [] q] [] pos) (RE g S0 H0 fun ρ S Q => w ρ S fun x S1 => ssetS fz x S1 Q) := by
  refine (pe_sset (gd.calm hh) (gd.gl hg) (by rw [gd.gm]; exact gd.ge.blt _ (by decide +kernel)) (gd.gl hg2) (by rw [gd.gm]; exact gd.ge.blt _ (by decide +kernel)) ha (star_cons hn)).imp fun σ H Q h => ?_
  obtain ⟨ρ, S, Qd, r, h, kk⟩ := h
  refine ⟨ρ, S, _, r, h, fun x d S1 H1 rd1 rs1 st1 q1 => ?_⟩
  rcases q1 with ⟨zs, hz, hl, q1⟩ | ⟨is, hz, hl, q1⟩
  case inr =>
    obtain ⟨p, vs, rfl, sq, rr⟩ := rd1.seq rs1 hz
    have ev : vs = is.map V.int := by
      clear hz sq q1 hl
      induction is generalizing vs with
      | nil => unfold RDs at rr; exact rr
      | cons i is ih =>
        rw [List.map_cons] at rr
        unfold RDs at rr
        obtain ⟨v, r, rfl, h1, h2⟩ := rr
        rw [h1.ofInt, ih r h2]
        rfl
    subst ev
    refine .inr ⟨p, is, rfl, by rw [gd.gK]; exact sq, hl, fun ms q hs hm hq => ?_⟩
    have e : ms = sortI is := upI_eq hs (sortI_up is) fun x => by rw [hm, mem_sortI]
    rw [e]
    refine (kk.from st1).newL rs1 ?_ q1 q hq
    generalize sortI is = js
    induction js with
    | nil => exact RDs.nil
    | cons j js ih => exact RDs.cons rd_int ih
  refine .inl ?_
  obtain ⟨sr, rfl, hk⟩ := src_of rs1 rd1 hz
  obtain ⟨vs, hv, rds⟩ := src_get rs1 rd1 hk hz
  obtain ⟨e, hc⟩ := rds_strs rds
  subst e
  refine ⟨sr, zs.map mkS, rfl, ?_, by rw [List.length_map]; exact hl, fun ss p hs nd hm hp => ?_⟩
  · rw [gd.gK, List.map_map]; exact hv
  · have e : ss.map (fun x => x.cps.toList) = sortU zs := by
      refine up_eq (sorted_up hs nd) (sortU_up zs) fun y => ?_
      rw [mem_sortU, List.mem_map]
      constructor
      · rintro ⟨x, hx, rfl⟩
        obtain ⟨z, hz', rfl⟩ := List.mem_map.mp ((hm x).mp hx)
        rw [mkS_list]; exact hz'
      · intro hy
        exact ⟨mkS y, (hm _).mpr (List.mem_map.mpr ⟨y, hy, rfl⟩), mkS_list y⟩
    have e2 : ss.map V.str = (sortU zs).map fun z => V.str (mkS z) := by
      rw [← e, List.map_map]
      exact List.map_congr_left fun x _ => by show V.str x = V.str (mkS x.cps.toList); rw [mkS_eta]
    rw [e2]
    exact (kk.from st1).newL rs1 (strs_rds fun z hz' => hc z (mem_sortU.mp hz')) q1 p hp
end
end G
/-! GX: rows again and again, dicts' displays, calls by names. -/
namespace G
open PySem L2
section
variable {T : Tab} {k : Nat} {g : Gx} {X : Cx} {c : Sc} {ex : QE} {S0 : Sto} {H0 : Hp}
theorem rds_flat {S : Sto} {H : Hp} {ds : List D} {vs : List V} (r : RDs g S H ds vs) : ∀ n : Nat, RDs g S H (List.replicate n ds).flatten (List.replicate n vs).flatten
  | 0 => RDs.nil
  | n + 1 => by
    rw [List.replicate_succ, List.replicate_succ, List.flatten_cons, List.flatten_cons]
    exact r.append (rds_flat r n)
theorem s_repl (gd : Good T k g X c ex S0 H0) {fz : Bool} {ws : Sl → Sto → (List D → Sto → Prop) → Prop} {w : Sl → Sto → QV → Prop} {es : List Expr} {b : Expr} {p pos : Pos} (ha : PA X es (RA g S0 H0 ws)) (hb : PE X b (RE g S0 H0 w)) :
    PE X (.BinOp (.List es p) .Mult b pos) (RE g S0 H0 fun ρ S Q => ws ρ S fun ds S1 => ds.length ≤ lim ∧ w ρ S1 fun y S2 => replS fz ds y S2 Q) := by
  refine (pe_op op_rep (pe_lst ha) hb).imp fun σ H Q h => ?_
  obtain ⟨ρ, S, Qd, r, h, kk⟩ := h
  refine ⟨ρ, S, _, r, h, fun vs ds S1 H1 rds rs1 st1 q1 => ⟨by rw [← rds.length]; exact lim_size q1.1, fun p hp => ?_⟩⟩
  obtain ⟨rs1', st1'⟩ := rs1.frozen (o := .lst vs) hp
  refine ⟨ρ, S1, _, r.step rs1' (st1.trans st1'), q1.2, fun y d2 S2 H2 rd2 rs2 st2 q2 => ?_⟩
  obtain ⟨n, rfl, h1, h2, h3, q⟩ := q2
  obtain ⟨hp2, _⟩ := st2 p _ upd_same (rs1.free hp)
  have hl : ds.length = vs.length := rds.length
  exact ⟨p, n, vs, rfl, rd2.ofInt, hp2, h1, h2, by rw [← hl]; exact lim_size h3, fun p2 hp2' => (kk.from ((st1.trans st1').trans st2)).newL rs2 (rds_flat ((rds.mono st1').mono st2) n.toNat) q p2 hp2'⟩
/-! ### calls by names -/
def kwIs : List Str → List Keyword → Prop
  | [], [] => True
  | k :: ks, kw :: kws => kw.arg = some k ∧ kwIs ks kws
  | _, _ => False
theorem kw_names {pos : Pos} {env : Env} : ∀ {ks : List Str} {kws : List Keyword}, kwIs ks kws → (backToKw pos (keywordEach kws env)).filterMap (·.1) = ks ∧ (backToKw pos (keywordEach kws env)).all (·.1.isSome) = true ∧ (backToKw pos (keywordEach kws env)).any (·.1.isNone) = false
  | [], [], _ => ⟨rfl, rfl, rfl⟩
  | k :: ks, ⟨nm, e, p⟩ :: kws, h => by
    obtain ⟨h1, h2⟩ := h
    obtain ⟨i1, i2, i3⟩ := kw_names (pos := pos) (env := env) h2
    have h1' : nm = some k := h1
    subst h1'
    refine ⟨?_, ?_, ?_⟩
    · show k :: (backToKw pos (keywordEach kws env)).filterMap (·.1) = k :: ks
      rw [i1]
    · show (true && (backToKw pos (keywordEach kws env)).all (·.1.isSome)) = true
      rw [i2]; rfl
    · show (false || (backToKw pos (keywordEach kws env)).any (·.1.isNone)) = false
      rw [i3]; rfl
theorem s_kw {w : Sl → Sto → QV → Prop} {ws : Sl → Sto → (List D → Sto → Prop) → Prop} {e : Expr} {nm : Option Str} {kp : Pos} {kws : List Keyword} (he : PE X e (RE g S0 H0 w)) (hes : PK X kws (RA g S0 H0 ws)) :
    PK X (⟨nm, e, kp⟩ :: kws) (RA g S0 H0 fun ρ S Q => w ρ S fun d S1 => ws ρ S1 fun ds S2 => Q (d :: ds) S2) := by
  refine ⟨fun p pins s σ H Q I h => (pk_cons he hes).run p pins s σ H Q I ?_⟩
  obtain ⟨ρ, S, Qd, r, h, kk⟩ := h
  exact ⟨ρ, S, _, r, h, fun x d S1 H1 rd1 rs1 st1 q1 => ⟨ρ, S1, _, r.step rs1 st1, q1, fun vs ds S2 H2 rd2 rs2 st2 q2 => kk _ _ S2 H2 (RDs.cons (rd1.mono st2) rd2) rs2 (st1.trans st2) q2⟩⟩
theorem s_kw0 : PK X [] (RA g S0 H0 fun _ S Q => Q [] S) := ⟨fun p pins s σ H Q I ⟨ρ, S, Qd, r, h, kk⟩ => pk_nil.run p pins s σ H Q I (kk [] [] S H RDs.nil r.rs (Step.refl S H) h)⟩
theorem s_callk (gd : Good T k g X c ex S0 H0) (hh : c.hot = false) {f : Str} {es : List Expr} {ks : List Str} {kws : List Keyword} {pl : List (Nat ⊕ D)} {n : Nat} {ws wk : Sl → Sto → (List D → Sto → Prop) → Prop} {p pos : Pos} (hg : glB (c.kd f) = true) (hd : (f == dbg) = false)
    (ha : PA X es (RA g S0 H0 ws)) (hn : es.all noStar = true) (h0 : es = [] → n = 0 ∧ ws = fun _ S Q => Q [] S) (hk : PK X kws (RA g S0 H0 wk)) (hkw : kwIs ks kws) :
    PE X (.Call (.Name f p) es kws pos) (RE g S0 H0 fun ρ S Q => ∃ φ, T.fn f = some φ ∧ T.kw f n ks = some pl ∧ ws ρ S fun ds S1 => wk ρ S1 fun us S2 => ds.length = n ∧ us.length = ks.length ∧ φ (pick pl (ds ++ us)) S2 Q (ex ρ)) := by
  obtain ⟨K, mg, B⟩ := g
  have e1 : X.K = K := gd.gK
  have e2 : X.mg = mg := gd.gm
  subst e1 e2
  refine ⟨fun pins s σ H Q I h => ?_⟩
  obtain ⟨ρ, S, Qd, r, ⟨φ, hφ, hpl, h⟩, kk⟩ := h
  obtain ⟨a, fd, ps, hm, kp, F, hb, hkb⟩ := gd.ge.fns f φ hφ
  obtain ⟨gU, gV, kb, rel⟩ := hkb n ks pl hpl
  have rm : RoomB (T.hot f) k X.A := (gd.room.mono (Nat.le_succ k)).cast fun _ => hh
  obtain ⟨n1, n2, n3⟩ := kw_names (pos := pos) (env := X.env) hkw
  have go : ∀ (as ws : List Value) (vs zs : List V) (s2 : Shared) (H2 : Hp), L2.Inv X pins σ H2 s2 → Vals vs as → Vals zs ws → vs.length = n → zs.length = ks.length → spOf X.K X.mg φ (gV vs zs) H2 Q (EX ⟨X.K, X.mg, B⟩ (ex ρ) S H) →
      wpAny (model X.prog X.w) X.A (call (.ref a) as (ks.zip ws)) (EP X pins σ Q) X.xe s2 := fun as ws vs zs s2 H2 I2 r1 r2 l1 l2 q2 =>
    run_g (args := ⟨as, ks.zip ws⟩) F gd.gds rm (fun _ => .inl (gd.room.hd hh)) (kb.to s2 as ws I2.kIn (r1.length.symm.trans l1) (r2.length.symm.trans l2)) (gd.pass r) I2 (kb.rel r1 r2) q2
  refine wpAny_Call_Name_kw (ld_glob I (gd.gl hg) hm ?_ hd)
  cases es with
  | nil =>
    obtain ⟨rfl, hw⟩ := h0 rfl
    rw [hw] at h
    have q0 : RA ⟨X.K, X.mg, B⟩ S0 H0 wk σ H fun zs H1 => ([] : List V).length = 0 ∧ zs.length = ks.length ∧ spOf X.K X.mg φ (gV [] zs) H1 Q (EX ⟨X.K, X.mg, B⟩ (ex ρ) S H) :=
      ⟨ρ, S, _, r, h, fun zs us S1 H1 rds rs1 st1 ⟨q1, q2, q3⟩ => ⟨rfl, by rw [← rds.length]; exact q2, B, _, S1, Qd, ex ρ, rel B S1 H1 [] us [] zs q1 q2 RDs.nil rds, rs1, q3, kk.from st1, contX_of st1⟩⟩
    refine PySem.W.callWith_KW0 (h₀ := X.base) I.ok.mod.kin kp n2 (thn (hk.run pos pins s σ H _ I q0) fun ws s2 ⟨zs, H2, I2, rz, l1, l2, q2⟩ => ⟨I2.kIn, ?_⟩) n3
    rw [n1]
    exact go [] ws [] zs s2 H2 I2 .nil rz l1 l2 q2
  | cons e es =>
    rw [List.all_cons, Bool.and_eq_true] at hn
    have hpl : ((backTo pos (starEach (e :: es) X.env)).any (·.1) || (backToKw pos (keywordEach kws X.env)).any (·.1.isNone)) = false := by
      rw [n3, star_any (es := e :: es) (by rw [List.all_cons, hn.1, hn.2]; rfl)]; rfl
    have q0 : RA ⟨X.K, X.mg, B⟩ S0 H0 ws σ H fun vs H1 => RA ⟨X.K, X.mg, B⟩ S0 H0 wk σ H1 fun zs H2 => vs.length = n ∧ zs.length = ks.length ∧ spOf X.K X.mg φ (gV vs zs) H2 Q (EX ⟨X.K, X.mg, B⟩ (ex ρ) S H) :=
      ⟨ρ, S, _, r, h, fun vs ds S1 H1 rds rs1 st1 q1 => ⟨ρ, S1, _, r.step rs1 st1, q1, fun zs us S2 H2 rds2 rs2 st2 ⟨q1, q2, q3⟩ => ⟨by rw [← rds.length]; exact q1, by rw [← rds2.length]; exact q2, B, _, S2, Qd, ex ρ,
        rel B S2 H2 ds us vs zs q1 q2 (rds.mono st2) rds2, rs2, q3, kk.from (st1.trans st2), contX_of (st1.trans st2)⟩⟩⟩
    refine PySem.W.callWith_KW (h₀ := X.base) I.ok.mod.kin kp n2 (thn (ha.run pos pins s σ H _ I q0) fun as s1 ⟨vs, H1, I1, rv, q⟩ => thn (hk.run pos pins s1 σ H1 _ I1 q) fun ws s2 ⟨zs, H2, I2, rz, l1, l2, q2⟩ => ⟨I2.kIn, ?_⟩) hpl (star_cons hn.1)
    rw [n1]
    exact go as ws vs zs s2 H2 I2 rv rz l1 l2 q2
/-! ### dicts' displays -/
def RPs (g : Gx) (S0 : Sto) (H0 : Hp) (w : Sl → Sto → (List (D × D) → Sto → Prop) → Prop) : L2.St → Hp → (List (V × V) → Hp → Prop) → Prop := fun σ H Q => ∃ ρ S Qd, Rl g S0 H0 ρ S σ H ∧ w ρ S Qd ∧
  ∀ ps qs S' H', RDs g S' H' (qs.map (·.1)) (ps.map (·.1)) → RDs g S' H' (qs.map (·.2)) (ps.map (·.2)) → RS g S' H' → Step S H S' H' → Qd qs S' → Q ps H'
def PPr (X : Cx) (pos : Pos) (keys : List (Option Expr)) (values : List Expr) (t : L2.St → Hp → (List (V × V) → Hp → Prop) → Prop) : Prop := ∃ trs, PPs X pos keys values trs ∧ ∀ σ H Q, t σ H Q → tPairs trs σ H Q
theorem s_pnil {pos : Pos} : PPr X pos [] [] (RPs g S0 H0 fun _ S Q => Q [] S) := ⟨[], pps_nil, fun σ H Q ⟨ρ, S, Qd, r, h, kk⟩ => kk [] [] S H RDs.nil RDs.nil r.rs (Step.refl S H) h⟩
theorem s_pcons {pos : Pos} {k v : Expr} {ks : List (Option Expr)} {vs : List Expr} {wk wv : Sl → Sto → QV → Prop} {w : Sl → Sto → (List (D × D) → Sto → Prop) → Prop} (hk : PE X k (RE g S0 H0 wk)) (hv : PE X v (RE g S0 H0 wv)) (hr : PPr X pos ks vs (RPs g S0 H0 w)) :
    PPr X pos (some k :: ks) (v :: vs) (RPs g S0 H0 fun ρ S Q => wk ρ S fun x S1 => wv ρ S1 fun y S2 => w ρ S2 fun ps S3 => Q ((x, y) :: ps) S3) := by
  obtain ⟨trs, h1, h2⟩ := hr
  refine ⟨(RE g S0 H0 wk, RE g S0 H0 wv) :: trs, pps_cons hk hv h1, fun σ H Q ⟨ρ, S, Qd, r, h, kk⟩ => ?_⟩
  refine ⟨ρ, S, _, r, h, fun x d S1 H1 rd1 rs1 st1 q1 => ⟨ρ, S1, _, r.step rs1 st1, q1, fun y d2 S2 H2 rd2 rs2 st2 q2 => h2 _ _ _ ⟨ρ, S2, _, (r.step rs1 st1).step rs2 st2, q2, fun ps qs S3 H3 k1 k2 rs3 st3 q3 => ?_⟩⟩⟩
  exact kk ((x, y) :: ps) ((d, d2) :: qs) S3 H3 (RDs.cons ((rd1.mono st2).mono st3) k1) (RDs.cons (rd2.mono st3) k2) rs3 ((st1.trans st2).trans st3) q3
theorem putK_new {kvs : List (Key × V)} {k : Key} {v : V} (h : ∀ p ∈ kvs, p.1 ≠ k) : putK kvs k v = kvs ++ [(k, v)] := by
  unfold putK
  rw [if_neg]
  intro hc
  obtain ⟨p, hp, e⟩ := List.any_eq_true.mp hc
  exact h p hp (of_decide_eq_true e)
theorem mergeK_new : ∀ (more kvs : List (Key × V)), ((kvs ++ more).map (·.1)).Nodup → mergeK kvs more = kvs ++ more
  | [], kvs, _ => by rw [List.append_nil]; rfl
  | p :: r, kvs, h => by
    have e : putK kvs p.1 p.2 = kvs ++ [p] := putK_new fun q hq e => by
      rw [List.map_append, List.nodup_append] at h
      exact h.2.2 q.1 (List.mem_map.mpr ⟨q, hq, rfl⟩) p.1 (by simp) e
    show mergeK (putK kvs p.1 p.2) r = _
    rw [e, mergeK_new r (kvs ++ [p]) (by simpa using h)]
    simp
theorem keys_rd {S : Sto} {H : Hp} : ∀ {qs : List (D × D)} {ps : List (V × V)}, RDs g S H (qs.map (·.1)) (ps.map (·.1)) → RDs g S H (qs.map (·.2)) (ps.map (·.2)) → (qs.map (·.1)).all (fun d => (toKey d).isSome) = true →
    ∃ kvs : List (Key × V), ps = kvs.map (fun kv => (kV kv.1, kv.2)) ∧ RKs g S H qs kvs ∧ (qs.map fun p => toKey p.1) = kvs.map fun p => some p.1
  | [], [], _, _, _ => ⟨[], rfl, rfl, rfl⟩
  | [], p :: ps, h, _, _ => by have := h.length; simp at this
  | q :: qs, [], h, _, _ => by have := h.length; simp at this
  | (d, e) :: qs, (x, y) :: ps, h1, h2, h3 => by
    obtain ⟨_, _, ea, a1, a2⟩ := h1
    obtain ⟨_, _, eb, b1, b2⟩ := h2
    cases ea
    cases eb
    rw [List.map_cons, List.all_cons, Bool.and_eq_true] at h3
    obtain ⟨kvs, e1, e2, e3⟩ := keys_rd a2 b2 h3.2
    obtain ⟨q, hq⟩ := Option.isSome_iff_exists.mp h3.1
    refine ⟨(q, y) :: kvs, ?_, ?_, ?_⟩
    · have ex : x = kV q := key_rd (d := d) (v := x) a1 hq
      rw [List.map_cons, ← e1, ex]
    · exact ⟨q, y, kvs, rfl, hq, b1, e2⟩
    · rw [List.map_cons, List.map_cons, e3, hq]
theorem new_dct {S : Sto} {H : Hp} (rs : RS g S H) {a : Addr} (ha : H a = none) : RS g (S.set a (.dct [])) (upd H a (.dK [])) ∧ Step S H (S.set a (.dct [])) (upd H a (.dK [])) := by
  have st : Step S H (S.set a (.dct [])) (upd H a (.dK [])) := Step.write (.inr ha)
  exact ⟨rs.write (.inr ha) st ⟨[], upd_same, rfl⟩ (fun b e => by rw [ha] at e; cases e), st⟩
theorem put_dct {S : Sto} {H : Hp} (rs : RS g S H) {a : Addr} {kvs kvs2 : List (D × D)} {gs gs2 : List (Key × V)} (hs : S a = some (.dct kvs)) (h : H a = some (.dK gs)) (r : RKs g S H kvs2 gs2) :
    RS g (S.set a (.dct kvs2)) (upd H a (.dK gs2)) ∧ Step S H (S.set a (.dct kvs2)) (upd H a (.dK gs2)) := by
  have st : Step S H (S.set a (.dct kvs2)) (upd H a (.dK gs2)) := Step.write (.inl (by rw [hs]; exact fun z => nomatch z))
  exact ⟨rs.write (.inl (by rw [hs]; exact fun z => nomatch z)) st ⟨gs2, upd_same, r.mono st⟩ (fun b e => by rw [h] at e; cases e), st⟩
/-- a dict's display ends: an object of its own, or never changed any more -/
theorem fin_dct {S : Sto} {H : Hp} {Qd : QV} {Q : VK} {fz : Bool} {a : Addr} {kvs0 kvs : List (D × D)} {gs0 gs : List (Key × V)} (kk : Cont g S H Qd Q) (rs : RS g S H) (hs : S a = some (.dct kvs0)) (h : H a = some (.dK gs0)) (r : RKs g S H kvs gs) (q : newDc fz a kvs S Qd) : Q (.ref a) (upd H a (.dK gs)) := by
  obtain ⟨rs3, st3⟩ := put_dct rs hs h r
  unfold newDc at q
  split at q
  · have sb : Sub (S.del a) (S.set a (.dct kvs)) := fun b o e => by
      unfold Sto.del at e
      split at e
      · cases e
      · rename_i nb
        rw [Sto.set_ne nb]; exact e
    have st4 := Step.sub (H := upd H a (.dK gs)) sb
    obtain ⟨u1, u2, u3⟩ := RKs.unzip ((r.mono st3).mono st4)
    refine kk _ _ _ _ ?_ (rs3.sub sb) (st3.trans st4) q
    unfold RD
    exact ⟨a, gs.map (·.1), gs.map (·.2), rfl, ⟨by unfold Sto.del; rw [if_pos rfl], (rs.1 a _ hs).1, by rw [← u1]; exact upd_same⟩, u2, by rw [List.length_map, List.length_map], u3⟩
  · exact kk _ _ _ _ rd_obj rs3 st3 q
theorem s_dct (gd : Good T k g X c ex S0 H0) {fz : Bool} {ks : List (Option Expr)} {vs : List Expr} {w : Sl → Sto → (List (D × D) → Sto → Prop) → Prop} {pos : Pos} (h : PPr X pos ks vs (RPs g S0 H0 w)) (hall : ks.all (·.isSome) = true) (hl : ks.length = vs.length) (h15 : ks.length ≤ 15)
    (h0 : ks = [] → w = fun _ S Q => Q [] S) :
    PE X (.Dict ks vs pos) (RE g S0 H0 fun ρ S Q => ∀ a, S a = none → w ρ (S.set a (.dct [])) fun kvs S1 => S1 a = some (.dct []) ∧ kvs.length ≤ 15 ∧ (kvs.map (·.1)).all (fun d => (toKey d).isSome) = true ∧ (kvs.map fun p => toKey p.1).Nodup ∧ newDc fz a kvs S1 Q) := by
  obtain ⟨trs, h1, h2⟩ := h
  cases ks with
  | nil =>
    cases vs with
    | cons _ _ => simp at hl
    | nil =>
      refine pe_dnewK.imp fun σ H Q ⟨ρ, S, Qd, r, h, kk⟩ p hp => ?_
      have q := h p (r.rs.free hp)
      rw [h0 rfl] at q
      obtain ⟨rs1, st1⟩ := new_dct r.rs hp
      have z := fin_dct (gs := []) (kk.from st1) rs1 Sto.set_same (gs0 := []) upd_same (show RKs g _ _ [] [] from rfl) q.2.2.2.2
      rw [upd_upd] at z
      exact z
  | cons kx kr =>
    refine (pe_disp h1 hall hl (by simp) h15).imp fun σ H Q ⟨ρ, S, Qd, r, h, kk⟩ p hp => ?_
    obtain ⟨rs1, st1⟩ := new_dct r.rs hp
    refine h2 _ _ _ ⟨ρ, S.set p (.dct []), _, r.step rs1 st1, h p (r.rs.free hp), fun ps qs S2 H2 k1 k2 rs2 st2 q2 => ?_⟩
    obtain ⟨q3, q4, q5, q6, q7⟩ := q2
    obtain ⟨gs, hgs, rgs⟩ := (rs2.1 _ _ q3).2
    have hgs' : gs = [] := rgs
    subst hgs'
    obtain ⟨kvs, e1, e2, e3⟩ := keys_rd k1 k2 q5
    have nd : (([] ++ kvs : List (Key × V)).map (·.1)).Nodup := by
      rw [e3] at q6
      rw [List.nil_append]
      have : (kvs.map (fun p : Key × V => p.1)).map some = kvs.map fun p => some p.1 := by rw [List.map_map]; rfl
      rw [← this] at q6
      exact (List.pairwise_map.mp q6).imp fun h e => h (by rw [e])
    refine ⟨hgs, kvs, e1, ?_, ?_⟩
    · have := congrArg List.length e3
      rw [List.length_map, List.length_map] at this
      omega
    · rw [mergeK_new kvs [] nd, List.nil_append]
      exact fin_dct (kk.from (st1.trans st2)) rs2 q3 hgs e2 q7
end
end G
/-! GY: tuples of ranges. -/
namespace G
open PySem PySem.Spec PyProof.Rows L2
section
variable {T : Tab} {k : Nat} {g : Gx} {X : Cx} {c : Sc} {ex : QE} {S0 : Sto} {H0 : Hp}
theorem vals_rgC {a c : Int} {n : Nat} {acc : Array Value} (h : ItemsOf (fun i v => ∃ t, v = .int (a + i * c) t) acc n) : Vals ((List.range n).map fun i => V.int (a + (i : Nat) * c)) acc.toList := by
  have e : acc.toList.length = n := by rw [Array.length_toList]; exact h.1
  rw [← e]
  refine vals_of_get acc.toList _ fun j u hj => ?_
  obtain ⟨t, rfl⟩ := h.2 j u (by rw [← hj, Array.getElem?_toList])
  exact ⟨t, rfl⟩
theorem rds_rgC {S : Sto} {H : Hp} {a c : Int} (n : Nat) : RDs g S H ((List.range n).map fun (i : Nat) => D.int (a + i * c)) ((List.range n).map fun i => V.int (a + (i : Nat) * c)) := by
  generalize List.range n = l
  induction l with
  | nil => exact RDs.nil
  | cons x r ih => exact RDs.cons rd_int ih
/-- range(..) as a thing -/
theorem rng_in (gd : Good T k g X c ex S0 H0) {ws : Sl → Sto → (List D → Sto → Prop) → Prop} {rs : List Expr} {p2 pos2 : Pos} (hg2 : glB (c.kd ("range" : Str)) = true) (ha : PA X rs (RA g S0 H0 ws)) (hn : rs.all noStar = true) (h0 : rs ≠ []) {pins : List (Addr × Obj)} {s : Shared} {σ : L2.St} {H : Hp} {ρ : Sl} {S : Sto} {Kd : List D → Sto → Prop}
    (I : L2.Inv X pins σ H s) (r : Rl g S0 H0 ρ S σ H) (h : ws ρ S fun ds S1 => rngS ds S1 fun xs _ S2 => xs.length ≤ lim ∧ Kd xs S2) :
    wpAny (model X.prog X.w) X.A (eval (.Call (.Name "range" p2) rs [] pos2) X.env) (fun x s' => ∃ rr a b cc t u v n H1 S1, x = .ref rr ∧ IsRange s'.heap rr a b cc t u v ∧ L2.Inv X pins σ H1 s' ∧ Builtin.Range.small a b cc = true ∧ Builtin.Range.rangeSize a b cc = ((n : Nat) : Int) ∧
      RS g S1 H1 ∧ Step S H S1 H1 ∧ n ≤ lim ∧ Kd ((List.range n).map fun (i : Nat) => D.int (a + i * cc)) S1) X.xe s := by
  have hm2 : X.mg "range" = none := by rw [gd.gm]; exact gd.ge.blt _ (by decide +kernel)
  cases rs with
  | nil => exact absurd rfl h0
  | cons e es =>
    rw [List.all_cons, Bool.and_eq_true] at hn
    have q0 : RA g S0 H0 ws σ H fun vs H1 => ∃ ds S1, RDs g S1 H1 ds vs ∧ RS g S1 H1 ∧ Step S H S1 H1 ∧ rngS ds S1 fun xs _ S2 => xs.length ≤ lim ∧ Kd xs S2 :=
      ⟨ρ, S, _, r, h, fun vs ds S1 H1 rds rs1 st1 q1 => ⟨ds, S1, rds, rs1, st1, q1⟩⟩
    refine Call_ (ld_blt I (gd.gl hg2) hm2 boot_range (PyProof.Rows.callWith_type1 (thn (ha.run pos2 pins s σ H _ I q0) fun us s1 ⟨vs, H1, I1, rv, ds, S1, rds, rs1, st1, q⟩ => ?_) (star_cons hn.1) (star_any hn.2)))
    unfold rngS at q
    split at q
    · rename_i n
      obtain ⟨v, rfl, rd⟩ := rds.one
      rw [rd.ofInt] at rv
      obtain ⟨u, rfl, t, rfl⟩ := vals1 rv
      obtain ⟨⟨q1, q2⟩, q3, q4⟩ := q
      refine call_range_1 ⟨_, 0, n, 1, _, _, _, n.toNat, H1, S1, rfl, IsRange.new _ _ _ _ _ _ _, I1.kept fun b u e => Heap.get?_push_of_some _ e, small_one (by decide) (by decide) q1 q2, ?_, rs1, st1, by simpa using q3, ?_⟩
      · rw [rangeSize_nat, Int.sub_zero]
      · simpa using q4
    · rename_i a b
      obtain ⟨v, v', rfl, rd, rd'⟩ := rds.two
      rw [rd.ofInt, rd'.ofInt] at rv
      obtain ⟨u, u', rfl, ⟨t, rfl⟩, ⟨t', rfl⟩⟩ := vals2 rv
      obtain ⟨⟨q1, q2, q1', q2'⟩, q3, q4⟩ := q
      refine call_range_2 ⟨_, a, b, 1, _, _, _, (b - a).toNat, H1, S1, rfl, IsRange.new _ _ _ _ _ _ _, I1.kept fun b u e => Heap.get?_push_of_some _ e, small_one q1 q2 q1' q2', rangeSize_nat a b, rs1, st1, by simpa using q3, ?_⟩
      simpa using q4
    · rename_i a b cc
      unfold RDs at rds
      obtain ⟨v, r1, rfl, rd, rds⟩ := rds
      obtain ⟨v', v'', rfl, rd', rd''⟩ := rds.two
      rw [rd.ofInt, rd'.ofInt, rd''.ofInt] at rv
      obtain ⟨n, ⟨c0, c1, c2, c3⟩, q3, q4⟩ := q
      cases rv with
      | cons r r2 =>
        obtain ⟨u', u'', rfl, ⟨t', rfl⟩, ⟨t'', rfl⟩⟩ := vals2 r2
        obtain ⟨t, rfl⟩ := r
        exact call_range_3 c0 ⟨_, a, b, cc, _, _, _, n, H1, S1, rfl, IsRange.new _ _ _ _ _ _ _, I1.kept fun b u e => Heap.get?_push_of_some _ e, c2, c3, rs1, st1, by simpa using q3, q4⟩ (.inl (PyProof.noPylong_small c1))
    · exact q.elim
theorem s_rngT (gd : Good T k g X c ex S0 H0) (hh : c.hot = false) {ws : Sl → Sto → (List D → Sto → Prop) → Prop} {rs : List Expr} {p p2 pos pos2 : Pos} (hg1 : glB (c.kd ("tuple" : Str)) = true) (hg2 : glB (c.kd ("range" : Str)) = true) (ha : PA X rs (RA g S0 H0 ws)) (hn : rs.all noStar = true) (h0 : rs ≠ []) :
    PE X (.Call (.Name "tuple" p) [.Call (.Name "range" p2) rs [] pos2] [] pos) (RE g S0 H0 fun ρ S Q => ws ρ S fun ds S1 => rngS ds S1 fun xs _ S2 => xs.length ≤ lim ∧ Q (.tup xs) S2) := by
  have hm1 : X.mg "tuple" = none := by rw [gd.gm]; exact gd.ge.blt _ (by decide +kernel)
  refine ⟨fun pins s σ H Q I h => ?_⟩
  obtain ⟨ρ, S, Qd, r, h, kk⟩ := h
  have na : starEach [.Call (.Name "range" p2) rs [] pos2] X.env = (false, eval (.Call (.Name "range" p2) rs [] pos2) X.env) :: starEach [] X.env := star_cons rfl
  refine Call_ (ld_blt I (gd.gl hg1) hm1 boot_tuple (PyProof.Rows.callWith_type1 (args_cons (thn (rng_in gd hg2 ha hn h0 I r h) fun x s1 ⟨rr, a, b, cc, t, u, v, n, H1, S1, ex1, hr, I1, b1, b2, rs1, st1, hl, q⟩ => args_nil ?_) na) na))
  subst ex1
  refine call_tuple_range (n := n) (I1.ok.hd (gd.calm hh)) hr b1 b2 (Nat.le_trans hl (by decide)) fun h' tk acc hk hi => ?_
  have I2 : L2.Inv X pins σ H1 { s1 with heap := h', toks := tk } := I1.kept hk
  have fr := I2.hok.fresh (Nat.le_refl h'.objs.size)
  refine ⟨.ref h'.objs.size, upd H1 h'.objs.size (.tup _), I2.laid (t' := tk) (o := .tup _) (fun c o e => Heap.get?_push_of_some _ e) (Nat.le_refl _) ⟨?_, acc.toList, vals_rgC hi, ?_⟩, rfl, (kk.from st1).newT rs1 (rds_rgC n) q _ fr⟩
  · rw [List.length_map, List.length_range]; exact lim_size hl
  · rw [Array.toArray_toList]; exact IsTup.new _ _
theorem s_rngL (gd : Good T k g X c ex S0 H0) (hh : c.hot = false) {fz : Bool} {ws : Sl → Sto → (List D → Sto → Prop) → Prop} {rs : List Expr} {p p2 pos pos2 : Pos} (hg1 : glB (c.kd ("list" : Str)) = true) (hg2 : glB (c.kd ("range" : Str)) = true) (ha : PA X rs (RA g S0 H0 ws)) (hn : rs.all noStar = true) (h0 : rs ≠ []) :
    PE X (.Call (.Name "list" p) [.Call (.Name "range" p2) rs [] pos2] [] pos) (RE g S0 H0 fun ρ S Q => ws ρ S fun ds S1 => rngS ds S1 fun xs _ S2 => xs.length ≤ lim ∧ newL fz xs S2 Q) := by
  have hm1 : X.mg "list" = none := by rw [gd.gm]; exact gd.ge.blt _ (by decide +kernel)
  refine ⟨fun pins s σ H Q I h => ?_⟩
  obtain ⟨ρ, S, Qd, r, h, kk⟩ := h
  have na : starEach [.Call (.Name "range" p2) rs [] pos2] X.env = (false, eval (.Call (.Name "range" p2) rs [] pos2) X.env) :: starEach [] X.env := star_cons rfl
  refine Call_ (ld_blt I (gd.gl hg1) hm1 boot_list (PyProof.Rows.callWith_type1 (args_cons (thn (rng_in gd hg2 ha hn h0 I r h) fun x s1 ⟨rr, a, b, cc, t, u, v, n, H1, S1, ex1, hr, I1, b1, b2, rs1, st1, hl, q⟩ => args_nil ?_) na) na))
  subst ex1
  refine call_list_range (n := n) (I1.ok.hd (gd.calm hh)) hr b1 b2 (Nat.le_trans hl (by decide)) fun h' tk acc c' hk hS hi => ?_
  have fr := I1.hok.fresh (Nat.le_refl s1.heap.objs.size)
  refine ⟨.ref s1.heap.objs.size, upd H1 s1.heap.objs.size (.lst _), I1.laid (t' := tk) (o := .lst _) hk (Nat.le_refl _) ⟨?_, acc.toList, c', vals_rgC hi, by simpa using hS⟩, rfl, (kk.from st1).newL rs1 (rds_rgC n) q _ fr⟩
  rw [List.length_map, List.length_range]; exact lim_size hl
end
end G
/-! GZ: rows turned about; sorted sets of ints. -/
namespace G
open PySem PySem.Spec PyProof.Rows L2
open PpSet (eval_SetComp)
section
variable {T : Tab} {k : Nat} {g : Gx} {X : Cx} {c : Sc} {ex : QE} {S0 : Sto} {H0 : Hp}
theorem RDs.step {S : Sto} {H : Hp} {n : Nat} {ds : List D} {vs : List V} (h : RDs g S H ds vs) : RDs g S H (stepL n ds) (stepL n vs) := by
  have ln := h.length
  unfold stepL
  rw [ln]
  have go : ∀ l : List Nat, RDs g S H (l.filterMap fun k => ds[k * n]?) (l.filterMap fun k => vs[k * n]?) := by
    intro l
    induction l with
    | nil => exact RDs.nil
    | cons a l ih =>
      rw [List.filterMap_cons, List.filterMap_cons]
      cases e : ds[a * n]? with
      | none =>
        have e2 : vs[a * n]? = none := by
          rw [List.getElem?_eq_none_iff] at e ⊢
          omega
        rw [e2]
        exact ih
      | some x =>
        obtain ⟨u, e2, r⟩ := h.get _ _ e
        rw [e2]
        exact RDs.cons r ih
  exact go _
end
end G
/-! GV: a caught error as a value; lists put together. -/
namespace G
open PySem PySem.Spec PyProof.Rows L2
theorem exT_ok {P : Program} {w : World} {H : Hp} {h : Heap} {a c : Addr} {d : Option Addr} {oe : Obj} {vs : Array Value} (he : h.get? a = some oe) (hc : oe.cls = .ref c) (hd : oe.dict = d) (hv : oe.data = .fields vs) (hn : vs[2]? = some .none) : ObjOk P w H h a (exT a c d) :=
  ⟨⟨oe, vs, he, hc, hd, hv, hn⟩, ⟨_, he⟩, fun h1 h2 z k => by
    obtain ⟨oe, vs, e, r⟩ := z
    exact ⟨oe, vs, k _ e, r⟩⟩
theorem exT_at {P : Program} {w : World} {H : Hp} {h : Heap} {a c : Addr} {d : Option Addr} (hok : HOk P w H h) (he : H a = some (exT a c d)) : ∃ oe vs, h.get? a = some oe ∧ oe.cls = .ref c ∧ oe.dict = d ∧ oe.data = .fields vs ∧ vs[2]? = some .none := by
  have x : ObjOk P w H h a (.ext fun h => ∃ oe vs, h.get? a = some oe ∧ oe.cls = .ref c ∧ oe.dict = d ∧ oe.data = .fields vs ∧ vs[2]? = some .none) := hok a _ he
  exact x.1
section
variable {T : Tab} {k : Nat} {g : Gx} {X : Cx} {c : Sc} {ex : QE} {S0 : Sto} {H0 : Hp} {pins : List (Addr × Obj)} {σ : L2.St} {H : Hp} {s : Shared}
/-- a caught error, as it stands -/
theorem inst_exn {S : Sto} {C : Str} {ns : List Str} {ds : List D} {v : V} (I : L2.Inv X pins σ H s) (rd : RD g S H (.exn C ns ds) v) : ∃ (a cc : Addr) (oe : Obj) (od : Option Obj), v = .ref a ∧ g.mg C = some (.ref cc) ∧ PySem.W.InstAt s.heap a oe cc od ∧
    ∀ f d, ns = [f] → ds = [d] → ∃ o w u, od = some o ∧ PySem.W.lookIn f o = some (some u) ∧ RelV w u ∧ RD g S H d w := by
  unfold RD at rd
  obtain ⟨a, cc, d, vs, rfl, ⟨k1, k2, q⟩, m, l, r, z⟩ := rd
  obtain ⟨oe, fs, h1, h2, h3, h4, _⟩ := exT_at I.hok q
  have nc : PySem.W.notCls oe = true := by unfold PySem.W.notCls; rw [h4] <;> rfl
  rcases z with ⟨z, z2⟩ | ⟨dx, e1, _, _, q1⟩
  · refine ⟨a, cc, oe, none, rfl, m, ⟨h1, h2, nc, by rw [h3, z2]; trivial⟩, fun f d e => ?_⟩
    rw [z] at e; cases e
  · have hx : ObjOk X.prog X.w H s.heap dx (.xd (ns.zip vs)) := I.hok dx _ q1
    obtain ⟨mA, hns, hr⟩ := hx
    obtain ⟨od, ho, hl⟩ := lookIn_ns hns
    refine ⟨a, cc, oe, some od, rfl, m, ⟨h1, h2, nc, by rw [h3, e1]; exact ho⟩, fun f d e e' => ?_⟩
    subst e e'
    obtain ⟨v, rfl, rv⟩ := r.one
    obtain ⟨u, hu, ru⟩ := RelO.some_of (v := v) (o := mA f) (by rw [show some v = ([f].zip [v]).lookup f from by simp]; exact hr f)
    exact ⟨od, v, u, rfl, by rw [hl, hu], ru, rv⟩
theorem kit_exn {cc a : Addr} {oe : Obj} {od : Option Obj} (E : ExcC X.K cc) : PySem.W.KitX X.K (.ref a) (.ref cc) (fun h => PySem.W.InstAt h a oe cc od) :=
  PySem.W.kitx_exc (by obtain ⟨cd, hc, _⟩ := PySem.W.any_some E.hd; rw [hc]; rfl) E.hg E.hk E.hs E.ha E.hn E.ht E.hm
theorem nm_one {y : Str} {u v : Value} (h : nmV g.mg y u) (k : nmV g.mg y v) : u = v := by
  rcases h with ⟨a, rfl, h⟩ | ⟨n, rfl, h1, h2, _⟩
  · rcases k with ⟨b, rfl, k⟩ | ⟨m, rfl, k1, k2, _⟩
    · rw [h] at k; cases k; rfl
    · rw [h] at k1; cases k1
  · rcases k with ⟨b, rfl, k⟩ | ⟨m, rfl, k1, k2, _⟩
    · rw [h1] at k; cases k
    · rw [h2] at k2; cases k2; rfl
/-- a class's name, read -/
theorem s_cls (gd : Good T k g X c ex S0 H0) {y : Str} {u : Value} {p : Pos} (hy : glB (c.kd y) = true) (hyd : (y == dbg) = false) (h : nmV g.mg y u) : ∃ v, ClsV v u ∧ PE X (.Name y p) (tC v) := by
  rcases h with ⟨a, rfl, h⟩ | ⟨n, rfl, h1, h2, h3⟩
  · exact ⟨.ref a, .own a, pe_glob (gd.gl hy) (by rw [gd.gm]; exact h) rfl hyd⟩
  · exact ⟨.ty n, .ty n, pe_bltn (gd.gl hy) (by rw [gd.gm]; exact h1) h2 rfl h3 hyd⟩
def rIsX (g : Gx) (K : PySem.W.Frag) : List V → Hp → VK → Prop := fun xs H Q => ∃ (S : Sto) (C : Str) (ns : List Str) (ds : List D) (x y : V) (u : Value) (cc : Addr) (b : Bool), xs = [x, y] ∧ RD g S H (.exn C ns ds) x ∧ g.mg C = some (.ref cc) ∧ ExcC K cc ∧ ClsV y u ∧ PySem.W.kitOne K (.ref cc) u = some b ∧ Q (.bl b) H
theorem call_isX : CallR X (.builtin "isinstance") (rIsX g X.K) := by
  intro pins s σ H xs us Q I r h
  obtain ⟨S, C, ns, ds, x, y, u, cc, b, rfl, rd, hm, E, k, e, q⟩ := h
  obtain ⟨u1, u2, rfl, r1, r2⟩ := vals2 r
  have e2 := k.eq r2
  subst e2
  obtain ⟨a, c', oe, od, rfl, hm', J, _⟩ := inst_exn I rd
  rw [hm] at hm'
  obtain rfl : cc = c' := Value.ref.inj (Option.some.inj hm')
  obtain rfl : u1 = Value.ref a := r1
  exact PySem.W.kia_one (kit_exn E) I.kIn J e (fun z => nomatch z) fun tk => ⟨.bl b, H, I.tok tk, rfl, q⟩
def rIsXs (g : Gx) (K : PySem.W.Frag) : List V → Hp → VK → Prop := fun xs H Q => ∃ (S : Sto) (C : Str) (ns : List Str) (ds : List D) (x : V) (tp : Addr) (ys : List V) (us : List Value) (cc : Addr) (b : Bool), xs = [x, .ref tp] ∧ H tp = some (.tup ys) ∧ RD g S H (.exn C ns ds) x ∧ g.mg C = some (.ref cc) ∧ ExcC K cc ∧ Paired ClsV ys us ∧ PySem.W.kitAny K (.ref cc) us = some b ∧ Q (.bl b) H
theorem call_isXs : CallR X (.builtin "isinstance") (rIsXs g X.K) := by
  intro pins s σ H xs us Q I r h
  obtain ⟨S, C, ns, ds, x, tp, ys, ws, cc, b, rfl, hT, rd, hm, E, k, e, q⟩ := h
  obtain ⟨u1, u2, rfl, r1, r2⟩ := vals2 r
  obtain rfl : u2 = Value.ref tp := r2
  obtain ⟨_, its, rv, o, h1, h2, n, h3⟩ := (show ObjOk X.prog X.w H s.heap tp (.tup ys) from I.hok tp _ hT)
  have e3 := ClsV.all k rv
  subst e3
  obtain ⟨oc, od, dt, sl⟩ := o
  simp only at h2 h3
  subst h2 h3
  obtain ⟨a, c', oe, od', rfl, hm', J, _⟩ := inst_exn I rd
  rw [hm] at hm'
  obtain rfl : cc = c' := Value.ref.inj (Option.some.inj hm')
  obtain rfl : u1 = Value.ref a := r1
  exact PySem.W.kia_tup (kit_exn E) I.kIn J h1 e (fun z => nomatch z) fun tk => ⟨.bl b, H, I.tok tk, rfl, q⟩
theorem s_isx (gd : Good T k g X c ex S0 H0) {w : Sl → Sto → QV → Prop} {a : Expr} {y : Str} {p p2 pos : Pos} (hg : glB (c.kd ("isinstance" : Str)) = true) (hy : glB (c.kd y) = true) (hyd : (y == dbg) = false) (hn : noStar a = true) (ha : PE X a (RE g S0 H0 w)) :
    PE X (.Call (.Name "isinstance" p) [a, .Name y p2] [] pos) (RE g S0 H0 fun ρ S Q => (∃ C0 b0, T.xs C0 y = some b0) ∧ w ρ S fun x S1 => ∃ C' ns vs b, x = .exn C' ns vs ∧ T.xs C' y = some b ∧ Q (.bl b) S1) := by
  have hm : X.mg "isinstance" = none := by rw [gd.gm]; exact gd.ge.blt _ (by decide +kernel)
  refine ⟨fun pins s σ H Q I h => ?_⟩
  have h' := h
  obtain ⟨ρ, S, Qd, r, ⟨⟨C0, b0, h0⟩, h⟩, kk⟩ := h
  obtain ⟨_, u, _, _, hu, _, _⟩ := gd.ge.xsb C0 y b0 h0
  obtain ⟨v, kv, hp⟩ := s_cls gd (p := p2) hy hyd hu
  refine (pe_callB (call_isX (g := g)) (gd.gl hg) hm (by decide +kernel) (pa_cons ha (pa_cons hp pa_nil rfl) (star_cons hn)) (by decide) (by decide) (star_cons hn) rfl).run pins s σ H Q I ?_
  refine ⟨ρ, S, _, r, h, fun x d S1 H1 rd1 rs1 st1 q1 => ?_⟩
  obtain ⟨C', ns, vs, b, rfl, hb, q⟩ := q1
  obtain ⟨cc, u', hc, E, hu', _, kit⟩ := gd.ge.xsb C' y b hb
  rw [nm_one hu' hu] at kit
  exact ⟨S1, C', ns, vs, x, v, u, cc, b, rfl, rd1, hc, gd.gK ▸ E, kv, gd.gK ▸ kit, (kk.from st1).here rs1 rd_bl q⟩
theorem kit_any {cc : Addr} {C' : Str} (gd : Good T k g X c ex S0 H0) (hc : g.mg C' = some (.ref cc)) : ∀ {Cs : List Str} {us : List Value} {b : Bool}, Paired (fun y u => nmV g.mg y u) Cs us → xsAny T Cs C' = some b → PySem.W.kitAny g.K (.ref cc) us = some b
  | _, _, _, .nil, h => by unfold xsAny at h; cases h; rfl
  | _, _, _, .cons (a := y) (b := u) h1 hr, h => by
    unfold xsAny at h
    split at h
    · rename_i a b e1 e2
      cases h
      obtain ⟨cc', u', hc', E, hu', _, kit⟩ := gd.ge.xsb C' y a e1
      rw [hc] at hc'
      obtain rfl : cc = cc' := Value.ref.inj (Option.some.inj hc')
      rw [nm_one hu' h1] at kit
      have ih := kit_any gd hc hr e2
      unfold PySem.W.kitAny
      rw [kit]
      cases a
      · exact ih
      · rfl
    · cases h
theorem s_clss (gd : Good T k g X c ex S0 H0) : ∀ {Cs : List Str} {ys : List Expr}, mNs c Cs ys = true → (∀ C ∈ Cs, ∃ C0 b0, T.xs C0 C = some b0) → ∃ us vs, Paired (fun y u => nmV g.mg y u) Cs us ∧ Paired ClsV vs us ∧ ys.all noStar = true ∧ vs.length = Cs.length ∧ PA X ys (fun _ H Q => Q vs H)
  | [], [], _, _ => ⟨[], [], .nil, .nil, rfl, rfl, pa_nil⟩
  | [], _ :: _, h, _ => nomatch (show false = true from h)
  | _ :: _, [], h, _ => nomatch (show false = true from h)
  | C :: Cs, e :: ys, h, hx => by
    obtain ⟨y, p, rfl⟩ : ∃ y p, e = .Name y p := by
      cases e with
      | Name y p => exact ⟨y, p, rfl⟩
      | _ => exact nomatch (show false = true from h)
    unfold mNs at h
    simp only [Bool.and_eq_true, beq_iff_eq, Bool.not_eq_true'] at h
    obtain ⟨⟨⟨rfl, hy⟩, hyd⟩, h⟩ := h
    obtain ⟨C0, b0, h0⟩ := hx C (List.mem_cons_self ..)
    obtain ⟨_, u, _, _, hu, _, _⟩ := gd.ge.xsb C0 C b0 h0
    obtain ⟨v, kv, hp⟩ := s_cls gd (p := p) hy hyd hu
    obtain ⟨us, vs, i1, i2, i3, i4, i5⟩ := s_clss gd h fun C' hC => hx C' (List.mem_cons_of_mem _ hC)
    exact ⟨u :: us, v :: vs, .cons hu i1, .cons kv i2, by rw [List.all_cons, i3]; rfl, by rw [List.length_cons, List.length_cons, i4], pa_cons hp i5 rfl⟩
theorem s_isxs (gd : Good T k g X c ex S0 H0) {w : Sl → Sto → QV → Prop} {a : Expr} {Cs : List Str} {ys : List Expr} {n : Nat} {p p2 pos : Pos} (hne : Cs ≠ []) (hg : glB (c.kd ("isinstance" : Str)) = true) (hy : mNs c Cs ys = true) (hn : noStar a = true) (ha : PE X a (RE g S0 H0 w)) :
    PE X (.Call (.Name "isinstance" p) [a, .Tuple ys n p2] [] pos) (RE g S0 H0 fun ρ S Q => (∀ C ∈ Cs, ∃ C0 b0, T.xs C0 C = some b0) ∧ Cs.length ≤ lim ∧ w ρ S fun x S1 => ∃ C' ns vs b, x = .exn C' ns vs ∧ xsAny T Cs C' = some b ∧ Q (.bl b) S1) := by
  have hm : X.mg "isinstance" = none := by rw [gd.gm]; exact gd.ge.blt _ (by decide +kernel)
  refine ⟨fun pins s σ H Q I h => ?_⟩
  obtain ⟨ρ, S, Qd, r, ⟨h0, hl, h⟩, kk⟩ := h
  obtain ⟨us, vs, i1, i2, i3, i4, i5⟩ := s_clss gd hy h0
  refine (pe_callB (call_isXs (g := g)) (gd.gl hg) hm (by decide +kernel) (pa_cons ha (pa_cons (pe_tup i5) pa_nil rfl) (star_cons hn)) (by decide) (by decide) (star_cons hn) rfl).run pins s σ H Q I ?_
  refine ⟨ρ, S, _, r, h, fun x d S1 H1 rd1 rs1 st1 q1 => ⟨by rw [i4]; exact lim_size hl, fun tp htp => ?_⟩⟩
  obtain ⟨C', ns, ds, b, rfl, hb, q⟩ := q1
  have fz := rs1.frozen (o := .tup vs) htp
  have rd2 := rd1.mono fz.2
  obtain ⟨cc, hc⟩ : ∃ cc, g.mg C' = some (.ref cc) := by
    unfold RD at rd1
    obtain ⟨_, cc, _, _, _, _, m, _⟩ := rd1
    exact ⟨cc, m⟩
  cases Cs with
  | nil => exact absurd rfl hne
  | cons C Cs =>
    have hE : ExcC X.K cc := by
      unfold xsAny at hb
      split at hb
      · rename_i a b e1 e2
        obtain ⟨cc', u', hc', E, _⟩ := gd.ge.xsb C' C a e1
        rw [hc] at hc'
        obtain rfl : cc = cc' := Value.ref.inj (Option.some.inj hc')
        exact gd.gK ▸ E
      · cases hb
    exact ⟨S1, C', ns, ds, x, tp, vs, us, cc, b, rfl, upd_same, rd2, hc, hE, i2, gd.gK ▸ kit_any gd hc i1 hb, (kk.from (st1.trans fz.2)).here fz.1 rd_bl q⟩
theorem s_xattr (gd : Good T k g X c ex S0 H0) {f : Str} {o : Expr} {w : Sl → Sto → QV → Prop} {pos : Pos} (ho : PE X o (RE g S0 H0 w)) (hs : noSup o = true) :
    PE X (.Attribute o f pos) (RE g S0 H0 fun ρ S Q => w ρ S fun x S1 => ∃ C sb vs d, x = .exn C [f] vs ∧ vs = [d] ∧ T.xc C = some (some f, sb) ∧ Q d S1) := by
  refine ⟨fun pins s σ H Q I h => ?_⟩
  obtain ⟨ρ, S, Qd, r, h, kk⟩ := h
  have h2 : RE g S0 H0 w σ H fun v H1 => ∃ S1 C sb d, RD g S1 H1 (.exn C [f] [d]) v ∧ RS g S1 H1 ∧ Step S H S1 H1 ∧ T.xc C = some (some f, sb) ∧ Qd d S1 :=
    ⟨ρ, S, _, r, h, fun x d S1 H1 rd1 rs1 st1 ⟨C, sb, vs, d', e1, e2, e3, q⟩ => ⟨S1, C, sb, d', by rw [← e2, ← e1]; exact rd1, rs1, st1, e3, q⟩⟩
  refine attr_of (nosup hs) (thn (ho.run pins s σ H _ I h2) fun u s1 ⟨x, H1, I1, rx, S1, C, sb, d, rd1, rs1, st1, e3, q⟩ => ?_)
  obtain ⟨a, cc, oe, od, rfl, hm, J, fd⟩ := inst_exn I1 rd1
  obtain ⟨o', w', u', rfl, hl, ru, rw'⟩ := fd f d rfl rfl
  obtain rfl : u = Value.ref a := rx
  obtain ⟨c', fI, B, newId, initId, tl, fdd, ps, hm', O, _, _, _, _, xf, nf⟩ := gd.ge.xcs C (some f) sb e3
  rw [hm] at hm'
  obtain rfl : cc = c' := Value.ref.inj (Option.some.inj hm')
  have xf' : XfC X.K cc := gd.gK ▸ xf
  exact HandSPX.exc_get I1.kIn J xf'.ga xf'.gg xf'.exC (PySem.W.findObj_own xf'.hdC (gd.gK ▸ nf f rfl) rfl hl) (handed_of ru) ⟨w', H1, I1.tok _, ru, (kk.from st1).here rs1 rw' q⟩
theorem seqL_at {S : Sto} {d : D} {v : V} {xs : List D} (rs : RS g S H) (r : RD g S H d v) (e : seqL S d = some xs) : ∃ p vs, v = .ref p ∧ Rd H p (.lst vs) ∧ RDs g S H xs vs := by
  cases d <;> simp only [seqL, reduceCtorEq] at e
  case lst ys =>
    cases e
    obtain ⟨p, vs, rfl, sq, r⟩ := r.lst
    exact ⟨p, vs, rfl, sq, r⟩
  case obj a =>
    split at e
    · rename_i ys hs
      cases e
      obtain ⟨vs, h, r'⟩ := (rs.1 _ _ hs).2
      exact ⟨a, vs, r.ofObj, .inl h, r'⟩
    · cases e
theorem s_cat {fz : Bool} {wa wb : Sl → Sto → QV → Prop} {a b : Expr} {pos : Pos} (ha : PE X a (RE g S0 H0 wa)) (hb : PE X b (RE g S0 H0 wb)) :
    PE X (.BinOp a .Add b pos) (RE g S0 H0 fun ρ S Q => wa ρ S fun x S1 => wb ρ S1 fun y S2 => ∃ xs ys, seqL S2 x = some xs ∧ seqL S2 y = some ys ∧ xs.length + ys.length ≤ lim ∧ newL fz (xs ++ ys) S2 Q) := by
  refine (pe_op op_catR ha hb).imp fun σ H Q h => ?_
  obtain ⟨ρ, S, Qd, r, h, kk⟩ := h
  refine ⟨ρ, S, _, r, h, fun x d1 S1 H1 rd1 rs1 st1 q1 => ⟨ρ, S1, _, r.step rs1 st1, q1, fun y d2 S2 H2 rd2 rs2 st2 q2 => ?_⟩⟩
  obtain ⟨xs, ys, e1, e2, hl, q⟩ := q2
  obtain ⟨p, us, rfl, h1, r1⟩ := seqL_at rs2 (rd1.mono st2) e1
  obtain ⟨p', vs, rfl, h2, r2⟩ := seqL_at rs2 rd2 e2
  exact ⟨p, p', us, vs, rfl, rfl, h1, h2, by rw [← r1.length, ← r2.length]; exact lim_size hl, fun l hl' => (kk.from (st1.trans st2)).newL rs2 (r1.append r2) q l hl'⟩
end
end G
/-! GB: a list comprehension over range(n) while a caught error is held. -/
namespace G
open PySem PySem.Spec PyProof.Rows L2 HotX
/-- what a turn may lean on while an error is held: none is, or its context is None -/
def Held (A : Around) (h : Heap) : Prop := A.handled = none ∨ ∃ x, HotAt A x h
theorem HotS.held {X : Cx} {pins : List (Addr × Obj)} {σ : L2.St} {H : Hp} {s : Shared} (h : HotS X.A H) (I : L2.Inv X pins σ H s) : Held X.A s.heap := by
  rcases h with z | ⟨a, c, d, h1, h2⟩
  · exact .inl z
  · obtain ⟨oe, vs, e1, _, _, e4, e5⟩ := exT_at I.hok h2
    exact .inr ⟨a, h1, oe, vs, e1, e4, e5⟩
/-- an iterator's turns, wherever its end may be told -/
structure TurnB (P : Program) (w : World) (K : PySem.W.Frag) (tg : Expr) (J : L2.It) (it : Addr) (tn : Nat → Heap → Prop) : Prop where
  obj : ∀ i h, tn i h → ∃ o, h.get? it = some o ∧ ∀ v, o.data ≠ .cell v
  keep : ∀ i h h', tn i h → (∀ o, h.get? it = some o → h'.get? it = some o) → tn i h'
  item : ∀ (X : Cx), X.prog = P → X.w = w → X.K = K → ∀ (i : Nat) (pins : List (Addr × Obj)) (s : Shared) (σ : L2.St) (H : Hp) (E : Value → Shared → Prop), L2.Inv X pins σ H s → FpOk X pins H it → tn i s.heap → J.go i H →
    wpAny (model P w) X.A (pyNext (.ref it)) (fun r s1 => ∃ u, r = some u ∧
      wpAny (model P w) X.A (letOwnedTupleGo tg (.ref it) u) (fun _ s2 => ∃ x H', L2.Inv X pins σ H' s2 ∧ RelV x u ∧ J.yld i H x H' ∧ tn (i + 1) s2.heap ∧ H' it = none) E s1) E s
  done : ∀ (X : Cx), X.prog = P → X.w = w → X.K = K → ∀ (i : Nat) (pins : List (Addr × Obj)) (s : Shared) (σ : L2.St) (H : Hp) (E : Value → Shared → Prop), Held X.A s.heap → L2.Inv X pins σ H s → FpOk X pins H it → tn i s.heap → J.stop i H →
    wpAny (model P w) X.A (pyNext (.ref it)) (fun r s1 => r = none ∧ L2.Inv X pins σ H s1) E s
  self : ∀ (A : Around) (i : Nat) (s : Shared) (Q : Value → Shared → Prop) (E : Value → Shared → Prop), tn i s.heap → Q (.ref it) s → wpAny (model P w) A (pyIter (.ref it)) Q E s
theorem turn_rng {P : Program} {w : World} {K : PySem.W.Frag} {tg : Expr} (it : Addr) (lo : Int) (n : Nat) : TurnB P w K tg (Itr lo n) it (fun i h => IsRangeIter h it (lo + (i : Nat) * 1) ((n : Int) - (i : Nat)) 1) where
  obj := fun i h st => ⟨_, st, fun v z => Data.noConfusion z⟩
  keep := fun i h h' st k => k _ st
  item := by
    intro X hP hw hK i pins s σ H E I hf st hg
    subst hP hw hK
    obtain ⟨f0, f1, f2, f3, f4, f5⟩ := hf
    have hlt : i < n := hg
    refine wpAny_pyNext_range_item st (by omega) fun h' st' sb => ?_
    have st2 : IsRangeIter h' it (lo + ((i + 1 : Nat) : Int) * 1) ((n : Int) - ((i + 1 : Nat) : Int)) 1 := by
      rw [show lo + ((i + 1 : Nat) : Int) * 1 = lo + ((i : Nat) : Int) * 1 + 1 from by omega, show (n : Int) - ((i + 1 : Nat) : Int) = (n : Int) - ((i : Nat) : Int) - 1 from by omega]
      exact st'
    have J : L2.Inv X pins σ H { s with heap := h', toks := s.toks + 1 } := I.turned (fun b o hb e => (sb.2 b hb).trans e) f0 f1 f3 f4 f5
    exact ⟨_, rfl, go_of (s := { s with heap := h', toks := s.toks + 1 }) (n := "range_iterator") st2 rfl rfl (by decide) ⟨.int (lo + i), H, J, ⟨s.toks, by rw [Int.mul_one]⟩, ⟨rfl, rfl⟩, st2, f0⟩⟩
  done := by
    intro X hP hw hK i pins s σ H E hh I hf st hg
    subst hP hw hK
    obtain ⟨f0, f1, f2, f3, f4, f5⟩ := hf
    have hle : (n : Int) - (i : Nat) ≤ 0 := by have : n ≤ i := hg; omega
    rcases hh with z | ⟨x, hot⟩
    · exact wpAny_pyNext_range_end z st hle fun h' eb => ⟨rfl, I.turned (t' := s.toks) (fun b o hb e => eb b o hb e) f0 f1 f3 f4 f5⟩
    · exact pyNext_range_end_hot hot st hle fun h' eb => ⟨rfl, I.turned (t' := s.toks) (fun b o _ e => eb b o e) f0 f1 f3 f4 f5⟩
  self := fun _ _ _ _ _ st h => wpAny_pyIter_rangeiter st h
section
variable {prog : Program} {w : World} {A : Around} {E : Value → Shared → Prop} {s : Shared}
theorem upd_at {h : Heap} {a b : Addr} {o : Obj} {f : Obj → Obj} (ne : a ≠ b) (e : h.get? b = some o) : (h.update a f).get? b = some o := by
  rw [Heap.get?_update_other _ _ ne]; exact e
theorem pyNext_list_end_hot {it l x1 : Addr} {i : Nat} {items} {Q : Option Value → Shared → Prop} (hot : HotAt A x1 s.heap) (hit : s.heap.IsListIter it l i) (hl : s.heap.IsList l items) (hx : items[i]? = none)
    (hQ : ∀ h', Heap.ExtBut it s.heap h' → Q none { s with heap := h' }) : wpAny (model prog w) A (pyNext (.ref it)) Q E s := by
  obtain ⟨o, ho, hc, hd⟩ := id hit
  obtain ⟨hh, o1, vs1, h1, d1, c1⟩ := hot
  have hne : it ≠ x1 := fun e => by
    subst e
    rw [ho] at h1
    cases h1
    rw [hd] at d1
    cases d1
    simp at c1
  obtain ⟨ol, hol, _, nl, hdl⟩ := hl
  unfold pyNext
  refine wpAny_bind (wpAny_attempt (wpAny_callSpecial?_slot (name := Str.ofString "__next__") hit.typeIs slot_listiter_next
    (wpAny_call_entry slot_listiter_next hit.typeIs entry_listiter_next ?_ (args_listiter_next _))))
  show wpAny _ _ (field (.ref it) 0 >>= _) _ _ s
  refine wpAny_bind (wpAny_field ho hd (x := .ref l) rfl ?_)
  show wpAny _ _ (if (Value.ref l == Value.none) = true then _ else _) _ _ s
  rw [if_neg (show ¬ ((Value.ref l == Value.none) = true) from Bool.false_ne_true)]
  show wpAny _ _ (field (.ref it) 1 >>= _) _ _ s
  refine wpAny_bind (wpAny_field ho hd (x := .int i 0) rfl ?_)
  show wpAny _ _ (seqItems? (.ref l) >>= _) _ _ s
  refine wpAny_bind (wpAny_seqItems hol hdl ?_)
  simp only [Int.toNat_natCast, hx]
  refine wpAny_bind (wpAny_rule (wpAny_bind (wpAny_setField ho hd (by simp) ?_)))
  show wpAny _ _ (newExc (.type "StopIteration") [] >>= _) _ _ _
  refine wpAny_bind ?_
  simp only [newExc, newTuple]
  refine wpAny_bind (wpAny_newObj_type ?_ (by size_fits))
  refine wpAny_bind (m := firstArgMember _ _) (wpAny_of_eq (a := Value.none) (by first | rfl | (simp only [firstArgMember]; rfl)) ?_)
  refine wpAny_newObj_type ?_ (by size_fits)
  refine raiseNew_hot ⟨hh, o1, vs1, Heap.get?_push_of_some _ (Heap.get?_push_of_some _ (upd_at hne h1)), d1, c1⟩ (Nat.ne_of_lt (Heap.lt_size (Heap.get?_push_of_some _ (upd_at hne h1)))) (Heap.get?_push_size _ rfl) rfl (by first | (simp; done) | (simp; omega) | (simp only [Array.size_append]; simp; omega)) ?_
  refine wpAny_bind (wpAny_isInstance (T := "StopIteration") (b := true) ⟨_, Heap.get?_update_self _ (Heap.get?_push_size _ rfl) rfl, rfl⟩ isSubtype_stop ?_)
  refine wpAny_pure (hQ _ fun b o' hb e => ?_)
  rw [Heap.get?_update_other _ _ (Nat.ne_of_gt (Heap.lt_size (Heap.get?_push_of_some _ (upd_at (Ne.symm hb) e))))]
  exact Heap.get?_push_of_some _ (Heap.get?_push_of_some _ (upd_at (Ne.symm hb) e))
theorem pyNext_tuple_end_hot {it t x1 : Addr} {i : Nat} {items} {Q : Option Value → Shared → Prop} (hot : HotAt A x1 s.heap) (hit : s.heap.IsTupleIter it t i) (ht : s.heap.IsTuple t items) (hx : items[i]? = none)
    (hQ : ∀ h', Heap.ExtBut it s.heap h' → Q none { s with heap := h' }) : wpAny (model prog w) A (pyNext (.ref it)) Q E s := by
  obtain ⟨o, ho, hc, hd⟩ := id hit
  obtain ⟨hh, o1, vs1, h1, d1, c1⟩ := hot
  have hne : it ≠ x1 := fun e => by
    subst e
    rw [ho] at h1
    cases h1
    rw [hd] at d1
    cases d1
    simp at c1
  obtain ⟨ol, hol, _, nl, hdl⟩ := ht
  unfold pyNext
  refine wpAny_bind (wpAny_attempt (wpAny_callSpecial?_slot (name := Str.ofString "__next__") hit.typeIs F.slot_tuple_iterator_next
    (wpAny_call_entry F.slot_tuple_iterator_next hit.typeIs F.entry_tuple_iterator_next ?_ (F.args_tuple_iterator_next_1 _))))
  show wpAny _ _ (field (.ref it) 0 >>= _) _ _ s
  refine wpAny_bind (wpAny_field ho hd (x := .ref t) rfl ?_)
  show wpAny _ _ (if (Value.ref t == Value.none) = true then _ else _) _ _ s
  rw [if_neg (show ¬ ((Value.ref t == Value.none) = true) from Bool.false_ne_true)]
  show wpAny _ _ (field (.ref it) 1 >>= _) _ _ s
  refine wpAny_bind (wpAny_field ho hd (x := .int i 0) rfl ?_)
  show wpAny _ _ (seqItems? (.ref t) >>= _) _ _ s
  refine wpAny_bind (wpAny_seqItems hol hdl ?_)
  simp only [Int.toNat_natCast, hx]
  refine wpAny_bind (wpAny_rule (wpAny_bind (wpAny_setField ho hd (by simp) ?_)))
  show wpAny _ _ (newExc (.type "StopIteration") [] >>= _) _ _ _
  refine wpAny_bind ?_
  simp only [newExc, newTuple]
  refine wpAny_bind (wpAny_newObj_type ?_ (by size_fits))
  refine wpAny_bind (m := firstArgMember _ _) (wpAny_of_eq (a := Value.none) (by first | rfl | (simp only [firstArgMember]; rfl)) ?_)
  refine wpAny_newObj_type ?_ (by size_fits)
  refine raiseNew_hot ⟨hh, o1, vs1, Heap.get?_push_of_some _ (Heap.get?_push_of_some _ (upd_at hne h1)), d1, c1⟩ (Nat.ne_of_lt (Heap.lt_size (Heap.get?_push_of_some _ (upd_at hne h1)))) (Heap.get?_push_size _ rfl) rfl (by first | (simp; done) | (simp; omega) | (simp only [Array.size_append]; simp; omega)) ?_
  refine wpAny_bind (wpAny_isInstance (T := "StopIteration") (b := true) ⟨_, Heap.get?_update_self _ (Heap.get?_push_size _ rfl) rfl, rfl⟩ isSubtype_stop ?_)
  refine wpAny_pure (hQ _ fun b o' hb e => ?_)
  rw [Heap.get?_update_other _ _ (Nat.ne_of_gt (Heap.lt_size (Heap.get?_push_of_some _ (upd_at (Ne.symm hb) e))))]
  exact Heap.get?_push_of_some _ (Heap.get?_push_of_some _ (upd_at (Ne.symm hb) e))
theorem pyNext_ascii_end_hot {it x1 : Addr} {x : Str} {t : Tok} {i : Nat} {Q : Option Value → Shared → Prop} (hot : HotAt A x1 s.heap) (hit : s.heap.IsStrIter it "str_ascii_iterator" x t i) (hx : x.cps[i]? = none)
    (hQ : ∀ h', Heap.ExtBut it s.heap h' → Q none { s with heap := h' }) : wpAny (model prog w) A (pyNext (.ref it)) Q E s := by
  obtain ⟨o, ho, hc, hd⟩ := id hit
  obtain ⟨hh, o1, vs1, h1, d1, c1⟩ := hot
  have hne : it ≠ x1 := fun e => by
    subst e
    rw [ho] at h1
    cases h1
    rw [hd] at d1
    cases d1
    simp at c1
  unfold pyNext
  refine wpAny_bind (wpAny_attempt (wpAny_callSpecial?_slot (name := Str.ofString "__next__") hit.typeIs F.slot_str_ascii_iterator_next
    (wpAny_call_entry F.slot_str_ascii_iterator_next hit.typeIs F.entry_str_ascii_iterator_next ?_ (F.args_str_ascii_iterator_next_1 _))))
  show wpAny _ _ (field (.ref it) 0 >>= _) _ _ s
  refine wpAny_bind (wpAny_field ho hd (x := .str x t) rfl ?_)
  show wpAny _ _ (field (.ref it) 1 >>= _) _ _ s
  refine wpAny_bind (wpAny_field ho hd (x := .int i 0) rfl ?_)
  simp only [Int.toNat_natCast, hx]
  refine wpAny_bind (wpAny_rule (wpAny_bind (wpAny_setField ho hd (by simp) (wpAny_bind (wpAny_letGo ?_)))))
  show wpAny _ _ (newExc (.type "StopIteration") [] >>= _) _ _ _
  refine wpAny_bind ?_
  simp only [newExc, newTuple]
  refine wpAny_bind (wpAny_newObj_type ?_ (by size_fits))
  refine wpAny_bind (m := firstArgMember _ _) (wpAny_of_eq (a := Value.none) (by first | rfl | (simp only [firstArgMember]; rfl)) ?_)
  refine wpAny_newObj_type ?_ (by size_fits)
  refine raiseNew_hot ⟨hh, o1, vs1, Heap.get?_push_of_some _ (Heap.get?_push_of_some _ (upd_at hne h1)), d1, c1⟩ (Nat.ne_of_lt (Heap.lt_size (Heap.get?_push_of_some _ (upd_at hne h1)))) (Heap.get?_push_size _ rfl) rfl (by first | (simp; done) | (simp; omega) | (simp only [Array.size_append]; simp; omega)) ?_
  refine wpAny_bind (wpAny_isInstance (T := "StopIteration") (b := true) ⟨_, Heap.get?_update_self _ (Heap.get?_push_size _ rfl) rfl, rfl⟩ isSubtype_stop ?_)
  refine wpAny_pure (hQ _ fun b o' hb e => ?_)
  rw [Heap.get?_update_other _ _ (Nat.ne_of_gt (Heap.lt_size (Heap.get?_push_of_some _ (upd_at (Ne.symm hb) e))))]
  exact Heap.get?_push_of_some _ (Heap.get?_push_of_some _ (upd_at (Ne.symm hb) e))
theorem pyNext_wide_end_hot {it x1 : Addr} {x : Str} {t : Tok} {i : Nat} {Q : Option Value → Shared → Prop} (hot : HotAt A x1 s.heap) (hit : s.heap.IsStrIter it "str_iterator" x t i) (hx : x.cps[i]? = none)
    (hQ : ∀ h', Heap.ExtBut it s.heap h' → Q none { s with heap := h' }) : wpAny (model prog w) A (pyNext (.ref it)) Q E s := by
  obtain ⟨o, ho, hc, hd⟩ := id hit
  obtain ⟨hh, o1, vs1, h1, d1, c1⟩ := hot
  have hne : it ≠ x1 := fun e => by
    subst e
    rw [ho] at h1
    cases h1
    rw [hd] at d1
    cases d1
    simp at c1
  unfold pyNext
  refine wpAny_bind (wpAny_attempt (wpAny_callSpecial?_slot (name := Str.ofString "__next__") hit.typeIs F.slot_str_iterator_next
    (wpAny_call_entry F.slot_str_iterator_next hit.typeIs F.entry_str_iterator_next ?_ (F.args_str_iterator_next_1 _))))
  show wpAny _ _ (field (.ref it) 0 >>= _) _ _ s
  refine wpAny_bind (wpAny_field ho hd (x := .str x t) rfl ?_)
  show wpAny _ _ (field (.ref it) 1 >>= _) _ _ s
  refine wpAny_bind (wpAny_field ho hd (x := .int i 0) rfl ?_)
  simp only [Int.toNat_natCast, hx]
  refine wpAny_bind (wpAny_rule (wpAny_bind (wpAny_setField ho hd (by simp) (wpAny_bind (wpAny_letGo ?_)))))
  show wpAny _ _ (newExc (.type "StopIteration") [] >>= _) _ _ _
  refine wpAny_bind ?_
  simp only [newExc, newTuple]
  refine wpAny_bind (wpAny_newObj_type ?_ (by size_fits))
  refine wpAny_bind (m := firstArgMember _ _) (wpAny_of_eq (a := Value.none) (by first | rfl | (simp only [firstArgMember]; rfl)) ?_)
  refine wpAny_newObj_type ?_ (by size_fits)
  refine raiseNew_hot ⟨hh, o1, vs1, Heap.get?_push_of_some _ (Heap.get?_push_of_some _ (upd_at hne h1)), d1, c1⟩ (Nat.ne_of_lt (Heap.lt_size (Heap.get?_push_of_some _ (upd_at hne h1)))) (Heap.get?_push_size _ rfl) rfl (by first | (simp; done) | (simp; omega) | (simp only [Array.size_append]; simp; omega)) ?_
  refine wpAny_bind (wpAny_isInstance (T := "StopIteration") (b := true) ⟨_, Heap.get?_update_self _ (Heap.get?_push_size _ rfl) rfl, rfl⟩ isSubtype_stop ?_)
  refine wpAny_pure (hQ _ fun b o' hb e => ?_)
  rw [Heap.get?_update_other _ _ (Nat.ne_of_gt (Heap.lt_size (Heap.get?_push_of_some _ (upd_at (Ne.symm hb) e))))]
  exact Heap.get?_push_of_some _ (Heap.get?_push_of_some _ (upd_at (Ne.symm hb) e))
end
theorem turnB_list {P : Program} {w : World} {K : PySem.W.Frag} {tg : Expr} (a it : Addr) : TurnB P w K tg (Itl K a) it (fun i h => h.IsListIter it a i) where
  obj := fun i h st => by
    obtain ⟨o, e, c, d⟩ := st
    exact ⟨o, e, fun v z => by rw [d] at z; cases z⟩
  keep := fun i h h' st k => st.at fun o e => k o e
  item := by
    intro X hP hw hK i pins s σ H E I hf st hg
    subst hP hw hK
    obtain ⟨xs, x, hq, hx⟩ := hg
    obtain ⟨its, rv, p, hz⟩ := I.list hq
    obtain ⟨u, hu, ru⟩ := rv.get hx
    obtain ⟨f0, f1, f2, f3, f4, f5⟩ := hf
    refine wpAny_pyNext_list_item st p.isList (x := u) (by simpa using hu) fun h' st' sb => ?_
    have I1 : L2.Inv X pins σ H { s with heap := h' } := I.turned (t' := s.toks) (fun b o hb e => (sb.2 b hb).trans e) f0 f1 f3 f4 f5
    obtain ⟨o, e, c, d⟩ := id st'
    exact ⟨u, rfl, go_of (s := { s with heap := h' }) e c d (by decide) ⟨x, H, I1, ru, ⟨rfl, fun ys hy => by rw [I.list_inj hy hq]; exact hx⟩, st', f0⟩⟩
  done := by
    intro X hP hw hK i pins s σ H E hh I hf st hg
    subst hP hw hK
    obtain ⟨xs, hq, hx⟩ := hg
    obtain ⟨its, rv, p, hz⟩ := I.list hq
    obtain ⟨f0, f1, f2, f3, f4, f5⟩ := hf
    have hl := rv.length
    rcases hh with z | ⟨x, hot⟩
    · exact wpAny_pyNext_list_end z st p.isList (by simp; omega) fun h' eb => ⟨rfl, I.turned (t' := s.toks) (fun b o hb e => eb b o hb e) f0 f1 f3 f4 f5⟩
    · exact pyNext_list_end_hot hot st p.isList (by simp; omega) fun h' eb => ⟨rfl, I.turned (t' := s.toks) (fun b o hb e => eb b o hb e) f0 f1 f3 f4 f5⟩
  self := fun _ _ _ _ _ st h => wpAny_pyIter_listiter st h
theorem turnB_tuple {P : Program} {w : World} {K : PySem.W.Frag} {tg : Expr} (a it : Addr) : TurnB P w K tg (Itt K a) it (fun i h => h.IsTupleIter it a i) where
  obj := fun i h st => by
    obtain ⟨o, e, c, d⟩ := st
    exact ⟨o, e, fun v z => by rw [d] at z; cases z⟩
  keep := fun i h h' st k => st.at fun o e => k o e
  item := by
    intro X hP hw hK i pins s σ H E I hf st hg
    subst hP hw hK
    obtain ⟨xs, x, hq, hx⟩ := hg
    obtain ⟨its, rv, p, hz⟩ := I.tuple hq
    obtain ⟨u, hu, ru⟩ := rv.get hx
    obtain ⟨f0, f1, f2, f3, f4, f5⟩ := hf
    refine wpAny_pyNext_tuple_item st (show s.heap.IsTuple a its.toArray from p) (x := u) (by simpa using hu) fun h' st' sb => ?_
    have I1 : L2.Inv X pins σ H { s with heap := h' } := I.turned (t' := s.toks) (fun b o hb e => (sb.2 b hb).trans e) f0 f1 f3 f4 f5
    obtain ⟨o, e, c, d⟩ := id st'
    exact ⟨u, rfl, go_of (s := { s with heap := h' }) e c d (by decide) ⟨x, H, I1, ru, ⟨rfl, fun ys hy => by rw [I.tuple_inj hy hq]; exact hx⟩, st', f0⟩⟩
  done := by
    intro X hP hw hK i pins s σ H E hh I hf st hg
    subst hP hw hK
    obtain ⟨xs, hq, hx⟩ := hg
    obtain ⟨its, rv, p, hz⟩ := I.tuple hq
    obtain ⟨f0, f1, f2, f3, f4, f5⟩ := hf
    have hl := rv.length
    rcases hh with z | ⟨x, hot⟩
    · exact wpAny_pyNext_tuple_end z st (show s.heap.IsTuple a its.toArray from p) (by simp; omega) fun h' eb => ⟨rfl, I.turned (t' := s.toks) (fun b o hb e => eb b o hb e) f0 f1 f3 f4 f5⟩
    · exact pyNext_tuple_end_hot hot st (show s.heap.IsTuple a its.toArray from p) (by simp; omega) fun h' eb => ⟨rfl, I.turned (t' := s.toks) (fun b o hb e => eb b o hb e) f0 f1 f3 f4 f5⟩
  self := fun _ _ _ _ _ st h => wpAny_pyIter_tupleiter st h
theorem turnB_ascii {P : Program} {w : World} {K : PySem.W.Frag} {tg : Expr} (it : Addr) (x : Str) (t : Tok) : TurnB P w K tg (Its x) it (fun i h => h.IsStrIter it "str_ascii_iterator" x t i) where
  obj := fun i h st => by
    obtain ⟨o, e, c, d⟩ := st
    exact ⟨o, e, fun v z => by rw [d] at z; cases z⟩
  keep := fun i h h' st k => let ⟨o, ho, r⟩ := st; ⟨o, k o ho, r⟩
  item := by
    intro X hP hw hK i pins s σ H E I hf st hg
    subst hP hw hK
    obtain ⟨f0, f1, f2, f3, f4, f5⟩ := hf
    have hg : i < x.cps.size := hg
    obtain ⟨c, hcx⟩ : ∃ c, x.cps[i]? = some c := ⟨_, Array.getElem?_eq_getElem hg⟩
    refine wpAny_pyNext_ascii_item st hcx fun h' st' sb => ?_
    have I1 : L2.Inv X pins σ H { s with heap := h', toks := s.toks + 1 } := I.turned (fun b o hb e => (sb.2 b hb).trans e) f0 f1 f3 f4 f5
    obtain ⟨oi, e, cc, dd⟩ := id st'
    exact ⟨_, rfl, go_of (s := { s with heap := h', toks := s.toks + 1 }) e cc dd (by decide) ⟨.str ⟨#[c]⟩, H, I1, ⟨s.toks, rfl⟩, ⟨rfl, c, hcx, rfl⟩, st', f0⟩⟩
  done := by
    intro X hP hw hK i pins s σ H E hh I hf st hg
    subst hP hw hK
    obtain ⟨f0, f1, f2, f3, f4, f5⟩ := hf
    have hx : x.cps[i]? = none := Array.getElem?_eq_none hg
    rcases hh with z | ⟨x9, hot⟩
    · exact wpAny_pyNext_ascii_end z st hx fun h' eb => ⟨rfl, I.turned (t' := s.toks) (fun b o hb e => eb b o hb e) f0 f1 f3 f4 f5⟩
    · exact pyNext_ascii_end_hot hot st hx fun h' eb => ⟨rfl, I.turned (t' := s.toks) (fun b o hb e => eb b o hb e) f0 f1 f3 f4 f5⟩
  self := fun _ _ _ _ _ st h => wpAny_pyIter_striter_ascii st h
theorem turnB_wide {P : Program} {w : World} {K : PySem.W.Frag} {tg : Expr} (it : Addr) (x : Str) (t : Tok) : TurnB P w K tg (Its x) it (fun i h => h.IsStrIter it "str_iterator" x t i) where
  obj := fun i h st => by
    obtain ⟨o, e, c, d⟩ := st
    exact ⟨o, e, fun v z => by rw [d] at z; cases z⟩
  keep := fun i h h' st k => let ⟨o, ho, r⟩ := st; ⟨o, k o ho, r⟩
  item := by
    intro X hP hw hK i pins s σ H E I hf st hg
    subst hP hw hK
    obtain ⟨f0, f1, f2, f3, f4, f5⟩ := hf
    have hg : i < x.cps.size := hg
    obtain ⟨c, hcx⟩ : ∃ c, x.cps[i]? = some c := ⟨_, Array.getElem?_eq_getElem hg⟩
    refine wpAny_pyNext_wide_item st hcx fun h' st' sb => ?_
    have I1 : L2.Inv X pins σ H { s with heap := h', toks := s.toks + 1 } := I.turned (fun b o hb e => (sb.2 b hb).trans e) f0 f1 f3 f4 f5
    obtain ⟨oi, e, cc, dd⟩ := id st'
    exact ⟨_, rfl, go_of (s := { s with heap := h', toks := s.toks + 1 }) e cc dd (by decide) ⟨.str ⟨#[c]⟩, H, I1, ⟨s.toks, rfl⟩, ⟨rfl, c, hcx, rfl⟩, st', f0⟩⟩
  done := by
    intro X hP hw hK i pins s σ H E hh I hf st hg
    subst hP hw hK
    obtain ⟨f0, f1, f2, f3, f4, f5⟩ := hf
    have hx : x.cps[i]? = none := Array.getElem?_eq_none hg
    rcases hh with z | ⟨x9, hot⟩
    · exact wpAny_pyNext_wide_end z st hx fun h' eb => ⟨rfl, I.turned (t' := s.toks) (fun b o hb e => eb b o hb e) f0 f1 f3 f4 f5⟩
    · exact pyNext_wide_end_hot hot st hx fun h' eb => ⟨rfl, I.turned (t' := s.toks) (fun b o hb e => eb b o hb e) f0 f1 f3 f4 f5⟩
  self := fun _ _ _ _ _ st h => wpAny_pyIter_striter_wide st h
def PIEB (X : Cx) (pins : List (Addr × Obj)) (σ : L2.St) (tg : Expr) (R : L2.It → Hp → Prop) (itv : Value) (s2 : Shared) : Prop :=
  ∃ (it : Addr) (tn : Nat → Heap → Prop) (J : L2.It) (H' : Hp), itv = .ref it ∧ L2.Inv X pins σ H' s2 ∧ TurnB X.prog X.w X.K tg J it tn ∧ tn 0 s2.heap ∧ FpOk X pins H' it ∧ R J H'
structure PIB (X : Cx) (tg iter : Expr) (wi : TI) : Prop where
  run : ∀ (pins : List (Addr × Obj)) (s : Shared) (σ : L2.St) (H : Hp) (R : L2.It → Hp → Prop), L2.Inv X pins σ H s → wi σ H R →
    wpAny (model X.prog X.w) X.A (eval iter X.env) (fun v s1 => wpAny (model X.prog X.w) X.A (pyIter v) (PIEB X pins σ tg R) X.xe s1) X.xe s
theorem pi_oneB {X : Cx} {tg : Expr} {pins : List (Addr × Obj)} {σ : L2.St} {H : Hp} {s : Shared} {R : L2.It → Hp → Prop} {J : L2.It} {tn : Nat → Heap → Prop} {tk : Nat} (I : L2.Inv X pins σ H s) (o : Obj)
    (T : TurnB X.prog X.w X.K tg J s.heap.objs.size tn) (st : tn 0 (s.heap.push o)) (q : R J H) : PIEB X pins σ tg R (.ref s.heap.objs.size) { s with heap := s.heap.push o, toks := tk } :=
  ⟨s.heap.objs.size, tn, J, H, rfl, I.kept fun b ob e => Heap.get?_push_of_some _ e, T, st, I.fpOk (Nat.le_refl _) (I.hok.fresh (Nat.le_refl _)), q⟩
theorem pi_sB {X : Cx} {tg e : Expr} {te : TE} (he : PE X e te) : PIB X tg e (iS X.K te) := by
  refine ⟨fun pins s σ H R I h => ?_⟩
  refine thn (he.run pins s σ H _ I h) ?_
  rintro v s1 ⟨x, H1, I1, rx, r, xs, rfl, hx, q⟩
  cases r with
  | ls a =>
    cases rx
    obtain ⟨its, rv, p, _⟩ := I1.list hx
    exact wpAny_pyIter_list p.isList (pi_oneB (tk := s1.toks) I1 _ (turnB_list a _) ⟨_, Heap.get?_push_size _ rfl, rfl, rfl⟩ q)
  | tp a =>
    cases rx
    obtain ⟨its, rv, p, _⟩ := I1.tuple hx
    exact wpAny_pyIter_tuple (show s1.heap.IsTuple a its.toArray from p) (pi_oneB (tk := s1.toks) I1 _ (turnB_tuple a _) ⟨_, Heap.get?_push_size _ rfl, rfl, rfl⟩ q)
  | tx z =>
    obtain ⟨t, rfl⟩ := rx
    cases ha : z.cps.all (· < 128)
    · exact wpAny_pyIter_wide ha (pi_oneB (tk := s1.toks) I1 _ (turnB_wide _ z t) ⟨_, Heap.get?_push_size _ rfl, rfl, rfl⟩ q)
    · exact wpAny_pyIter_ascii ha (pi_oneB (tk := s1.toks) I1 _ (turnB_ascii _ z t) ⟨_, Heap.get?_push_size _ rfl, rfl, rfl⟩ q)
section
variable {X : Cx} {tg : Expr}
theorem pi_rng1 {a : Expr} {ta : TA} {p pos : Pos} (hg : Gl X "range") (hm : X.mg "range" = none) (ha : PA X [a] ta) (hs : starEach [a] X.env = [(false, eval a X.env)]) : PIB X tg (.Call (.Name "range" p) [a] [] pos) (iRng1 ta) := by
  refine ⟨fun pins s σ H R I h => Call_ (ld_blt I hg hm boot_range (PyProof.Rows.callWith_type1 (thn (ha.run pos pins s σ H _ I h) fun us s1 ⟨vs, H1, I1, r1, j, e, q1, q2, q⟩ => ?_) hs rfl))⟩
  subst e
  cases r1 with
  | cons r rr =>
    cases rr
    obtain ⟨t, rfl⟩ := r
    refine call_range_1 ?_
    refine wpAny_pyIter_range (IsRange.new ..) (small_one (by omega) (by omega) q1 q2) ?_
    refine ⟨_, _, Itr 0 (j - 0).toNat, H1, rfl, I1.kept (t' := _) fun b o e => Heap.get?_push_of_some _ (Heap.get?_push_of_some _ e), turn_rng _ 0 (j - 0).toNat, ?_, ?_, by simpa using q⟩
    · have e1 : (0 : Int) + ((0 : Nat) : Int) * 1 = 0 := by simp
      have e2 : (((j - 0).toNat : Nat) : Int) - ((0 : Nat) : Int) = Builtin.Range.rangeSize 0 j 1 := by rw [rangeSize_one]; split <;> omega
      show IsRangeIter _ _ ((0 : Int) + ((0 : Nat) : Int) * 1) ((((j - 0).toNat : Nat) : Int) - ((0 : Nat) : Int)) 1
      rw [e1, e2]
      exact Heap.get?_push_size _ rfl
    · exact (I1.kept (t' := s1.toks) fun b o e => e).fpOk (by simp) (I1.hok.fresh (by simp))
end
section
variable {X : Cx}
/-- [elt for target in range(n) if ..] as a value; Z tells at every turn how the error stands -/
theorem pe_lcB {elt tg iter : Expr} {ifs : List Expr} {scope : Scope} {own : List (Str × Nat)} {pos : Pos} {wi : TI} {g : TG} {tt : TT} {te : TE} (hN : X.N.Nodup) (hi : PIB X tg iter wi) (ok : BlkOk X.N X.env.scope scope own)
    (hg : ∀ (s : Shared) (H : Hp) (C : Addr) (cl : List (Str × Addr)) (fp : List Addr), PG (X.blk s H scope (compEnvC scope cl C X.env) fp) tg g) (ht : ∀ (s : Shared) (H : Hp) (C : Addr) (cl : List (Str × Addr)) (fp : List Addr), PTs (X.blk s H scope (compEnvC scope cl C X.env) fp) ifs tt)
    (he : ∀ (s : Shared) (H : Hp) (C : Addr) (cl : List (Str × Addr)) (fp : List Addr), PE (X.blk s H scope (compEnvC scope cl C X.env) fp) elt te) (hs : ∀ x, foldedSetIterable iter X.env x = pure x) :
    PE X (.ListComp elt [⟨tg, iter, ifs, 0⟩] scope pos) (tLcB (HotS X.A) wi g tt te (own.map (·.2))) := by
  refine ⟨fun pins s σ H Q I h => ?_⟩
  rw [eval_ListComp]
  have hfree : ∀ y ∈ scope.names, y.2 = .free → ∃ c, X.env.cells.lookup y.1 = some c := fun y hy e => (ok.free y hy e).elim (fun k => I.ok.has _ (.inl k)) fun k => I.ok.has _ (.inr k)
  refine wpAny_comprehension_free rfl hs (closure_ok hfree) ok.kind (fun y hy e => by rw [ok.uniq y hy, e]) (thn (hi.run pins s σ H _ I h) fun xv s1 hx => thn hx fun itv s2 h2 => ?_)
  obtain ⟨it, tn, J, H2, e, I2, T, st2, f2, q⟩ := h2
  subst e
  refine wpAny_newObj_type (newEnv_comp ?_) (by show 0 ≤ sizeLine; decide)
  generalize hD : s2.heap.objs.size = D
  obtain ⟨W, ⟨m0, w0⟩, hZ, turn⟩ := q D (I2.hok.fresh (Nat.le_of_eq hD))
  -- the list that is made
  generalize hs3 : ({ s2 with heap := s2.heap.push { cls := .type "list", data := .seq ([] : List Value).toArray } } : Shared) = s3
  have h3 : s3.heap = s2.heap.push { cls := .type "list", data := .seq ([] : List Value).toArray } := by rw [← hs3]
  have I3 : L2.Inv X pins σ (upd H2 D (.lst [])) s3 := by
    rw [← hs3]
    exact I2.laid (t' := s2.toks) (fun b o e => Heap.get?_push_of_some _ e) (Nat.le_of_eq hD) ⟨Nat.zero_le _, [], 0, .nil, by rw [← hD]; exact Heap.get?_push_size _ rfl⟩
  obtain ⟨o2, e2, _⟩ := T.obj _ _ st2
  have lt2 : it < s2.heap.objs.size := Heap.lt_size e2
  have fI : FpOk X pins (upd H2 D (.lst [])) it := ⟨by rw [upd_ne (by rw [← hD]; exact Nat.ne_of_lt lt2)]; exact f2.1, f2.2⟩
  have fA : ∀ b ∈ [it], FpOk X pins (upd H2 D (.lst [])) b ∧ b < s3.heap.objs.size := fun b hb => by
    have e : b = it := by simpa using hb
    subst e
    exact ⟨fI, by rw [h3, Heap.size_push]; exact Nat.lt_succ_of_lt lt2⟩
  have st3 : tn 0 s3.heap := T.keep _ _ _ st2 fun o e => by rw [h3]; exact Heap.get?_push_of_some _ e
  have I4 := block_start I3 ok hN fA
  have pg := hg s3 (upd H2 D (.lst [])) s3.heap.objs.size (cellsFrom (s3.heap.objs.size + 1) scope.names (cloFrom X.env.cells scope.names [])) [it]
  have pt := ht s3 (upd H2 D (.lst [])) s3.heap.objs.size (cellsFrom (s3.heap.objs.size + 1) scope.names (cloFrom X.env.cells scope.names [])) [it]
  have pe := he s3 (upd H2 D (.lst [])) s3.heap.objs.size (cellsFrom (s3.heap.objs.size + 1) scope.names (cloFrom X.env.cells scope.names [])) [it]
  show codeAny _ _ (.compStart (.ListComp elt [⟨tg, iter, ifs, 0⟩] scope pos) 0 (.ref it) (.ref D) (compEnvC scope (cellsFrom (s3.heap.objs.size + 1) scope.names (cloFrom X.env.cells scope.names [])) s3.heap.objs.size X.env)) (compPost (model X.prog X.w) X.A X.xe none _ (.ref D) s3.heap.objs.size) { s3 with heap := pushCells (s3.heap.push { cls := .type "dict", data := .dict #[] }) scope.names }
  generalize hce : compEnvC scope (cellsFrom (s3.heap.objs.size + 1) scope.names (cloFrom X.env.cells scope.names [])) s3.heap.objs.size X.env = ce at I4 pg pt pe ⊢
  have cL : ce.locals = s3.heap.objs.size := by subst hce; rfl
  generalize hH3 : upd H2 D (.lst []) = H3 at I3 I4 pg pt pe w0 fI fA
  generalize hs4 : ({ s3 with heap := pushCells (s3.heap.push { cls := .type "dict", data := .dict #[] }) scope.names } : Shared) = s4 at I4 ⊢
  have st4 : tn 0 s4.heap := T.keep _ _ _ st3 fun o e => by rw [← hs4]; exact pushCells_keeps _ _ _ _ (Heap.get?_push_of_some _ e)
  have stat : ∀ {σ' : L2.St} {H' : Hp} {s' : Shared}, L2.Inv (X.blk s3 H3 scope ce [it]) [] σ' H' s' → H' it = none → FpOk (X.blk s3 H3 scope ce [it]) [] H' it := fun {σ' H' s'} I' hn =>
    ⟨hn, (I'.ok.exf it (by simp)).1, I'.ok.exfs it (by simp), .inl (by simp), fun x c e => (I'.ok.exf it (by simp)).2 x c e, fun p hp => absurd (show p ∈ ([] : List (Addr × Obj)) ++ [] from hp) (by simp)⟩
  suffices loop : codeAny (model X.prog X.w) X.A (.compLoop (.ListComp elt [⟨tg, iter, ifs, 0⟩] scope pos) 0 (.ref it) (.ref D) ce) (compPost (model X.prog X.w) X.A X.xe none (EP X pins σ Q) (.ref D) s3.heap.objs.size) s4 from codeAny_compStart_list loop (T.self X.A 0 _ _ _ st4 loop)
  refine compLoop_any (fun n s' => ∃ i H', L2.Inv (X.blk s3 H3 scope ce [it]) [] (wipe σ (own.map (·.2))) H' s' ∧ tn i s'.heap ∧ H' it = none ∧ W i n H') ?_ m0 ⟨0, H3, I4, st4, fI.1, w0⟩
  rintro n s5 ⟨i, H5, I5, st5, n5, w5⟩
  rcases turn i n H5 w5 with ⟨stop, qq⟩ | ⟨go, Nx, hNx, step⟩
  · have held : Held X.A s5.heap := HotS.held (X := X.blk s3 H3 scope ce [it]) (hZ i n H5 w5) I5
    refine thnF (T.done (X.blk s3 H3 scope ce [it]) rfl rfl rfl i [] s5 _ H5 (fun _ _ => False) held I5 (stat I5 n5) st5 stop) fun r s6 ⟨hr, I6⟩ => ?_
    subst hr
    have I7 : L2.Inv X pins σ H5 s6 := I3.call' (ch := [it]) I6.os I6.base I6.hok I6.bare fun b hb => ⟨(fA b hb).1.2.2.2.1, (fA b hb).1.2.1, (fA b hb).1.2.2.2.2.1, (fA b hb).1.2.2.2.2.2⟩
    have nC : H5 s3.heap.objs.size = none := by
      have z : H5 ce.locals = none := I6.free
      rw [cL] at z
      exact z
    obtain ⟨m, hn, _⟩ := I6.loc
    have hn : s6.heap.Ns ce.locals m := hn
    rw [cL] at hn
    refine ⟨m, hn, fun h'' sb => ?_⟩
    obtain ⟨f0, f1, _, f3, f4, f5⟩ := I3.fpOk (Nat.le_refl _) nC
    exact ⟨.ref D, H5, I7.turned (t' := s6.toks) (fun b o hb e => (sb.2 b hb).trans e) f0 f1 f3 f4 f5, rfl, qq⟩
  · refine thnF (T.item (X.blk s3 H3 scope ce [it]) rfl rfl rfl i [] s5 _ H5 (fun _ _ => False) I5 (stat I5 n5) st5 go) fun r s6 ⟨u, hr, h6⟩ => ?_
    subst hr
    refine thnF h6 fun _ s7 ⟨x, H7, I7, r7, y7, st7, n7⟩ => ?_
    obtain ⟨o7, e7, d7⟩ := T.obj _ _ st7
    have I7' := I7.pinned (fp := [it]) (fun b hb => by rw [show b = it by simpa using hb]; exact stat I7 n7) (fun b hb => ⟨o7, by rw [show b = it by simpa using hb]; exact ⟨e7, d7⟩⟩)
    have pm : (it, o7) ∈ pinsAt [it] s7.heap := mem_pinsAt (by simp) e7
    refine thnF (pg.run _ s7 _ H7 x u _ I7' r7 (step x H7 y7)) fun _ s8 ⟨σ8, H8, I8, hw8, q8⟩ => ?_
    refine thnF (pt.run _ s8 σ8 H8 _ I8 q8) fun b s9 ⟨H9, I9, q9⟩ => ?_
    have fin : ∀ {s' : Shared} {H' : Hp}, L2.Inv (X.blk s3 H3 scope ce [it]) ([] ++ pinsAt [it] s7.heap) σ8 H' s' → Nx H' → ∃ m, m < n ∧ ∃ i H', L2.Inv (X.blk s3 H3 scope ce [it]) [] (wipe σ (own.map (·.2))) H' s' ∧ tn i s'.heap ∧ H' it = none ∧ W i m H' := fun {s' H'} I' nx => by
      obtain ⟨m', hm, w'⟩ := hNx H' nx
      have z := I'.pin (it, o7) (List.mem_append_right _ (List.mem_append_right _ pm))
      refine ⟨m', hm, i + 1, H', (I'.unpinned (pins := [])).weak (by rw [← hw8, wipe_length]) (fun j v e => ?_), T.keep _ _ _ st7 fun o e => ?_, z.2.1, w'⟩
      · rw [← hw8] at e
        exact (wipe_some e).1
      · rw [e7] at e
        cases e
        exact z.1
    cases b with
    | false =>
      simp only [Bool.false_eq_true, if_false] at q9 ⊢
      exact fin I9 q9
    | true =>
      simp only [if_true] at q9 ⊢
      refine thnF (pe.run _ s9 σ8 H9 _ I9 q9) fun z s10 ⟨yv, H10, I10, r10, acc, hD10, hz10, nx⟩ => ?_
      exact app_ok (X := X.blk s3 H3 scope ce [it]) I10 hD10 hz10 r10 fun s11 I11 => fin I11 nx
end
section
variable {T : Tab} {k : Nat} {g : Gx} {X : Cx} {c : Sc} {ex : QE} {S0 : Sto} {H0 : Hp}
theorem s_rangeB (gd : Good T k g X c ex S0 H0) {w : Sl → Sto → QV → Prop} {tg e : Expr} {p pos : Pos} (ha : PE X e (RE g S0 H0 w)) (hg : glB (c.kd ("range" : Str)) = true) (hn : noStar e = true) :
    PIB X tg (.Call (.Name "range" p) [e] [] pos) (RI g S0 H0 fun ρ S Q => w ρ S fun d S1 => rngS [d] S1 Q) := by
  have hm : X.mg "range" = none := by rw [gd.gm]; exact gd.ge.blt _ (by decide +kernel)
  refine ⟨fun pins s σ H R I h => (pi_rng1 (gd.gl hg) hm (pa_cons ha pa_nil (star_cons hn)) (star_cons hn)).run pins s σ H R I ?_⟩
  obtain ⟨ρ, S, Qi, r, h, kk⟩ := h
  refine ⟨ρ, S, _, r, h, fun v d S1 H1 rd1 rs1 st1 q1 => ?_⟩
  unfold rngS at q1
  split at q1
  · rename_i n e
    cases e
    exact ⟨n, by rw [rd1.ofInt], q1.1.1, q1.1.2, kk _ _ S1 H1 _ rs1 st1 .rng q1.2⟩
  · rename_i e; cases e
  · rename_i e; cases e
  · exact q1.elim
theorem s_seqB (gd : Good T k g X c ex S0 H0) {w : Sl → Sto → QV → Prop} {tg e : Expr} (he : PE X e (RE g S0 H0 w)) :
    PIB X tg e (RI g S0 H0 fun ρ S Q => w ρ S fun d S1 => ∃ ds, itemsOf S1 d = some ds ∧ Q ds (still d S1) S1) := by
  refine ⟨fun pins s σ H R I h => (pi_sB he).run pins s σ H R I ?_⟩
  obtain ⟨ρ, S, Qi, r, h, kk⟩ := h
  refine ⟨ρ, S, _, r, h, fun v d S1 H1 rd1 rs1 st1 ⟨ds, hd, q1⟩ => ?_⟩
  obtain ⟨sr, rfl, hk⟩ := src_of rs1 rd1 hd
  obtain ⟨xs, hx, _⟩ := src_get rs1 rd1 hk hd
  rw [gd.gK]
  exact ⟨sr, xs, rfl, hx, kk ds _ S1 H1 _ rs1 st1 (.seq hk rd1 hd (still_self d S1)) q1⟩
end
end G
/-! GQ: == and != of own instances by an own __eq__. -/
namespace G
open PySem PySem.Spec PyProof.Rows L2
section
variable {prog : Program} {w : World} {A : Around} {E : Value → Shared → Prop} {s : Shared} {K : PySem.W.Frag} {x y C f : Addr} {ox oy : Obj} {od od' : Option Obj} {name : Str}
theorem ifBound_B {M : Model} {id : String} {args : List Value} {Q : Option Value → Shared → Prop} (X : K.In s.heap) (I : PySem.W.InstAt s.heap x ox C od) (hs : PySem.W.findIn K (.ref C) name = some (some (.builtin id)))
    (hb : bindSpecial (.builtin id) (.ref x) = pure (.builtin id, [.ref x])) (h : wpAny M A (call (.builtin id) (.ref x :: args)) (fun v => Q (some v)) E s) : wpAny M A (callSpecialIfBound? (.ref x) name args) Q E s := by
  simp only [callSpecialIfBound?, bindSpecialIfBound?]
  refine wpAny_holding (wpAny_bind (wpAny_bind (wpAny_bind (I.type.here ((PySem.W.looks_findIn X hs).here ?_)))))
  refine wpAny_bind (wpAny_askSetting (wpAny_ite ?_))
  have fin : wpAny M A (call (.builtin id) ([.ref x] ++ args) >>= fun v => pure (some v)) Q E s := wpAny_bind (wpAny_mono h (fun v s' h' => wpAny_pure h') fun _ _ h' => h')
  have hb' := PySem.W.Looks.of_pure (M := M) (h := s.heap) hb
  split
  · exact wpAny_bind (hb'.here (wpAny_pure (by exact fin)))
  · exact wpAny_tryCatch (wpAny_bind (hb'.here (wpAny_pure (by exact fin))))
theorem objNe_K {Q : Fin → Shared → Prop} (hu : A.units < cLine) (X : K.In s.heap) (I : PySem.W.InstAt s.heap x ox C od) (hs : PySem.W.findIn K (.ref C) "__eq__" = some (some (.ref f))) (hf : PySem.W.isFn K (.ref f) = true)
    (h : wpAny (model prog w) A (call (.ref f) [.ref x, .ref y]) (fun v s' => ∃ b, v = .bool b ∧ Q (.done (.ret (.bool (!b)))) s') E s) : wpAny (model prog w) A (Builtin.«object.__ne__» ⟨[.ref x, .ref y], []⟩) Q E s := by
  unfold Builtin.«object.__ne__»
  repeat (first
    | with_reducible refine wpAny_cRoomFor hu ?_
    | (refine wpAny_bind (m := callSpecialIfBound? (.ref x) (Str.ofString "__eq__") [.ref y])
        (PySem.W.ifBound_K X I hs hf (wpAny_mono h (fun r s' hr => by
          obtain ⟨b, rfl, hq⟩ := hr
          repeat (first | exact hq | exact wpAny_pure hq | exact wpAny_truthy_bool hq | (refine wpAny_bind (m := truthy (.bool _)) (wpAny_truthy_bool ?_)) | wp_step)) fun _ _ e => e)))
    | wp_step)
theorem neq_K {Q : Value → Shared → Prop} (hu : A.units + 1 < cLine) (X : K.In s.heap) (I : PySem.W.InstAt s.heap x ox C od) (J : PySem.W.InstAt s.heap y oy C od') (hn : PySem.W.findIn K (.ref C) "__ne__" = some (some (.builtin "object.__ne__")))
    (ho : PySem.W.subIn K (.ref C) (.type "object") = some true) (hs : PySem.W.findIn K (.ref C) "__eq__" = some (some (.ref f))) (hf : PySem.W.isFn K (.ref f) = true)
    (h : wpAny (model prog w) A.in1 (call (.ref f) [.ref x, .ref y]) (fun v s' => ∃ b, v = .bool b ∧ Q (.bool (!b)) s') E s) : wpAny (model prog w) A (richCompare .NotEq (.ref x) (.ref y)) Q E s := by
  have hi : PySem.W.Looks (model prog w) s.heap (isInstance (.ref x) (.type "object")) true := I.type.andThen (PySem.W.looks_subIn X ho)
  have one : wpAny (model prog w) A (tryCompare (.ref x) "__ne__" (.ref y)) (fun r s' => ∃ b : Bool, r = some (.bool (!b)) ∧ Q (.bool (!b)) s') E s := by
    unfold tryCompare
    refine wpAny_bind (ifBound_B X I hn (F.cmp_object.ne.bind _) (wpAny_call (codeAny_call_builtin F.cmp_object.ne.plain F.cmpEntry_ne (PySem.W.check_slot F.cmpKind_ne F.cmpSplit_ne hi (F.cmpArgs_ne _ _) (objNe_K (A := A.in1) hu X I hs hf (wpAny_mono h (fun v s' hv => ?_) fun _ _ e => e))))))
    obtain ⟨b, rfl, hq⟩ := hv
    first | exact ⟨b, rfl, wpAny_pure ⟨b, rfl, hq⟩⟩ | exact ⟨b, rfl, wpAny_pure (wpAny_pure ⟨b, rfl, hq⟩)⟩
  unfold richCompare
  simp only [oneThing_ref]
  refine wpAny_holding (wpAny_bind (wpAny_cRoomFor (Nat.lt_of_succ_lt hu) ?_))
  rw [cmpInfo_NotEq]
  dsimp only
  refine wpAny_bind (I.type.here (wpAny_bind (J.type.here ?_)))
  rw [show (Value.ref C != Value.ref C) = false from by simp]
  simp only [Bool.false_eq_true, if_false]
  refine wpAny_bind (wpAny_pure ?_)
  simp only [Bool.false_eq_true, if_false]
  refine wpAny_bind (wpAny_mono one (fun r s' z => ?_) fun _ _ e => e)
  obtain ⟨b, rfl, hq⟩ := z
  exact wpAny_pure hq
end
section
variable {T : Tab} {k : Nat} {g : Gx} {X : Cx} {c : Sc} {ex : QE} {S0 : Sto} {H0 : Hp} {hot : Bool}
/-- what comes out is a truth -/
def R2o (g : Gx) (o : D → D → Sto → QV → Prop) : R2 := fun x y H Q => ∃ d1 d2 S Qd, RD g S H d1 x ∧ RD g S H d2 y ∧ RS g S H ∧ o d1 d2 S Qd ∧ ∀ (b : Bool) S' H', RS g S' H' → Step S H S' H' → Qd (.bl b) S' → Q (.bl b) H'
theorem cx_no {P : Program} {w : World} {st : List Env} {H : Hp} {s : Shared} {e : Value} {s' : Shared} (h : L2N.CX P w st H s (fun _ _ _ => False) e s') : False := by
  obtain ⟨_, _, _, _, _, _, _, _, _, _, _, _, q⟩ := h
  exact q.elim
theorem run_in {pins : List (Addr × Obj)} {σ : L2.St} {H : Hp} {s : Shared} {A : Around} {f : Addr} {fd : FuncData} {ps : List Str} {sp : Sp} {us : List Value} {vs : List V} {Q : VK} (F : FnG false X.prog X.w X.K X.mg X.base (L2N.CX X.prog X.w) k f fd ps sp) (gs : A.guards = some []) (hr : RoomB false k A) (hf : A.frames = X.A.frames)
    (bt : BindsTo s fd ⟨us, []⟩ (ps.zip us)) (I : L2.Inv X pins σ H s) (rv : Vals vs us) (q : sp vs H Q (fun _ _ _ => False)) :
    wpAny (model X.prog X.w) A (call (.ref f) us) (EP X pins σ Q) X.xe s := by
  have e := I.env0
  have e0 : Env0 X.prog X.w X.K X.mg X.base A X.stack s H := ⟨by rw [hf]; exact e.frames, e.mod, e.bs, e.bsz, e.funs, e.frf, e.hok, e.bare⟩
  have z := F.goes A X.stack s H ⟨us, []⟩ us vs Q (fun _ _ _ => False) gs hr (fun z => by cases z) e0 bt rv q
  refine wpAny_call (codeAny_mono z fun o s' ho => ?_)
  match o, ho with
  | .error e, ho => exact (cx_no ho).elim
  | .ok (.ret u), ho => exact I.after ho
  | .ok .next, ho => exact (show False from ho).elim
  | .ok .brk, ho => exact (show False from ho).elim
  | .ok .cont, ho => exact (show False from ho).elim
theorem ocmp_sound (gd : Good T k g X c ex S0 H0) (hh : c.hot = false) (ne : Bool) (C : Str) (hn : ne = true → ∀ cc, g.mg C = some (.ref cc) → PySem.W.findIn g.K (.ref cc) "__ne__" = some (some (.builtin "object.__ne__")) ∧ PySem.W.subIn g.K (.ref cc) (.type "object") = some true) :
    OpR X (compareOp (if ne = true then .NotEq else .Eq)) (R2o g (ocmpS T ne C)) := by
  obtain ⟨K, mg, B⟩ := g
  have e1 : X.K = K := gd.gK
  have e2 : X.mg = mg := gd.gm
  subst e1 e2
  intro pins s σ H x y v u Q I rx ry ⟨d1, d2, S, Qd, r1, r2, rs, ⟨φ, hφ, ⟨fs, i1⟩, ⟨gs, i2⟩, hw⟩, kk⟩
  obtain ⟨cc, a, fd, ps, hm, cl, mt, F, b⟩ := gd.ge.mes C "__eq__" φ hφ
  obtain ⟨a1, c1, dx, g1, rfl, hm1, q1, _, _⟩ := r1.inst rs i1
  obtain ⟨a2, c2, dy, g2, rfl, hm2, q2, _, _⟩ := r2.inst rs i2
  rw [hm] at hm1 hm2
  obtain rfl : cc = c1 := Value.ref.inj (Option.some.inj hm1)
  obtain rfl : cc = c2 := Value.ref.inj (Option.some.inj hm2)
  cases rx
  cases ry
  obtain ⟨mA, J, _⟩ := ins_get I.hok q1
  obtain ⟨mB, J', _⟩ := ins_get I.hok q2
  obtain ⟨od, J, _⟩ := J.look
  obtain ⟨od', J', _⟩ := J'.look
  obtain ⟨m, hF⟩ := I.fr
  have rm : RoomB false k X.A := (gd.room.mono (Nat.le_succ k)).cast fun _ => hh
  have rm1 : RoomB false k X.A.in1 := ⟨rm.hd, rm.dp, (by have h1 := gd.room.un; show X.A.units + 1 + 16 * k + 200 < _; omega)⟩
  have sp : ∀ Qf : Bool → Sto → Prop, φ [d1, d2] S (fun d S1 => ∃ b : Bool, d = .bl b ∧ Qf b S1) (fun _ _ => False) → spOf X.K X.mg φ [.ref a1, .ref a2] H (fun v H' => ∃ b, v = .bl b ∧ ∃ S', RS ⟨X.K, X.mg, B⟩ S' H' ∧ Step S H S' H' ∧ Qf b S') (fun _ _ _ => False) := fun Qf h =>
    ⟨B, [d1, d2], S, _, _, RDs.cons r1 (RDs.cons r2 RDs.nil), rs, h, (fun v d S' H' rd rs' st ⟨b, e, q⟩ => by subst e; exact ⟨b, rd.ofBl, S', rs', st, q⟩), fun e c dd S' H' _ _ _ z => z.elim⟩
  have bt : BindsTo s fd ⟨[.ref a1, .ref a2], []⟩ (ps.zip [.ref a1, .ref a2]) := by
    have hl := F.many _ _ _ _ (sp _ hw)
    have := b s [.ref a1, .ref a2] I.kIn (by simpa using hl)
    simpa using this
  have rv : Vals [V.ref a1, V.ref a2] [Value.ref a1, Value.ref a2] := .cons rfl (.cons rfl .nil)
  cases ne with
  | false =>
    show wpAny (model X.prog X.w) X.A (richCompare .Eq (.ref a1) (.ref a2)) _ _ _
    refine PySem.W.cmp_K (op := .Eq) (tb := .ref cc) (by have h1 := gd.room.un; omega) hF I.ok.mod.kin J J'.type (by simp [PySem.W.notFirst]) mt.at_ mt.fn ?_
    refine wpAny_mono (run_in F gd.gds rm rfl bt I rv (sp _ hw)) (fun r s' z => ?_) fun _ _ e => e
    obtain ⟨w, H', I', rz, b', ew, S', rs', st, q⟩ := z
    subst ew
    cases rz
    refine ⟨.bl b', H', I', rfl, kk b' S' H' rs' st ?_⟩
    rw [show b' = (b' != false) by cases b' <;> rfl]
    exact q
  | true =>
    obtain ⟨n1, n2⟩ := hn rfl cc hm
    show wpAny (model X.prog X.w) X.A (richCompare .NotEq (.ref a1) (.ref a2)) _ _ _
    refine neq_K (by have h1 := gd.room.un; omega) I.kIn J J' n1 n2 mt.at_ mt.fn ?_
    refine wpAny_mono (run_in F (A := X.A.in1) gd.gds rm1 rfl bt I rv (sp _ hw)) (fun r s' z => ?_) fun _ _ e => e
    obtain ⟨w, H', I', rz, b', ew, S', rs', st, q⟩ := z
    subst ew
    cases rz
    refine ⟨b', rfl, .bl (!b'), H', I', rfl, kk (!b') S' H' rs' st ?_⟩
    rw [show (!b') = (b' != true) by cases b' <;> rfl]
    exact q
theorem pe_cond {P : Prop} {e : Expr} {w : Sl → Sto → QV → Prop} (h : P → PE X e (RE g S0 H0 w)) : PE X e (RE g S0 H0 fun ρ S Q => P ∧ w ρ S Q) :=
  ⟨fun pins s σ H Q I ⟨ρ, S, Qd, r, ⟨p, q⟩, kk⟩ => (h p).run pins s σ H Q I ⟨ρ, S, Qd, r, q, kk⟩⟩
theorem pt_cond {P : Prop} {e : Expr} {w : Sl → Sto → QV → Prop} (h : P → PT X e (RT g S0 H0 (mkV w).t)) : PT X e (RT g S0 H0 (mkV fun ρ S Q => P ∧ w ρ S Q).t) :=
  ⟨fun pins s σ H Q I ⟨ρ, S, Qd, r, hw, kk⟩ => (h hw.1).run pins s σ H Q I ⟨ρ, S, Qd, r, hw.2, kk⟩⟩
theorem s_oeq {wa wb : Sl → Sto → QV → Prop} (gd : Good T k g X c ex S0 H0) (hh : c.hot = false) {a b : Expr} {ne : Bool} {C : Str} {pos : Pos} (ha : PE X a (RE g S0 H0 wa)) (hb : PE X b (RE g S0 H0 wb)) (hm : behindInMarks (if ne = true then .NotEq else .Eq) b = false) :
    PE X (.Compare a [if ne = true then .NotEq else .Eq] [b] pos) (RE g S0 H0 fun ρ S Q => (ne = true → T.spc C = true) ∧ wa ρ S fun x S1 => wb ρ S1 fun y S2 => ocmpS T ne C x y S2 Q) :=
  pe_cond fun p => (pe_cmpR (ocmp_sound gd hh ne C fun e => gd.ge.spb C (p e)) ha hb hm).imp fun _ _ _ h => by
    obtain ⟨ρ, S, Qd, r, h, kk⟩ := h
    exact ⟨ρ, S, _, r, h, fun x d1 S1 H1 rd1 rs1 st1 q1 => ⟨ρ, S1, _, r.step rs1 st1, q1, fun y d2 S2 H2 rd2 rs2 st2 q2 => ⟨d1, d2, S2, Qd, rd1.mono st2, rd2, rs2, q2, fun b S3 H3 rs3 st3 q3 => kk _ (.bl b) S3 H3 rd_bl rs3 ((st1.trans st2).trans st3) q3⟩⟩⟩
theorem s_oeqT {wa wb : Sl → Sto → QV → Prop} (gd : Good T k g X c ex S0 H0) (hh : c.hot = false) {a b : Expr} {ne : Bool} {C : Str} {pos : Pos} (ha : PE X a (RE g S0 H0 wa)) (hb : PE X b (RE g S0 H0 wb)) (hm : behindInMarks (if ne = true then .NotEq else .Eq) b = false) :
    PT X (.Compare a [if ne = true then .NotEq else .Eq] [b] pos) (RT g S0 H0 (mkV fun ρ S Q => (ne = true → T.spc C = true) ∧ wa ρ S fun x S1 => wb ρ S1 fun y S2 => ocmpS T ne C x y S2 Q).t) := by
  refine pt_cond fun p => (pt_cmpR (ocmp_sound gd hh ne C fun e => gd.ge.spb C (p e)) ha hb hm).imp fun σ H Q h => ?_
  obtain ⟨ρ, S, Qd, r, h, kk⟩ := h
  refine ⟨ρ, S, _, r, h, fun x d1 S1 H1 rd1 rs1 st1 q1 => ⟨ρ, S1, _, r.step rs1 st1, q1, fun y d2 S2 H2 rd2 rs2 st2 q2 => ⟨d1, d2, S2, _, rd1.mono st2, rd2, rs2, q2, ?_⟩⟩⟩
  rintro b S3 H3 rs3 st3 ⟨b', hb', q3⟩
  cases hb'
  exact ⟨_, rfl, kk _ S3 H3 rs3 ((st1.trans st2).trans st3) q3⟩
end
end G
/-! GM: str of own instances by an own __str__. -/
namespace G
open PySem PySem.Spec PyProof.Rows L2
section
variable {T : Tab} {k : Nat} {g : Gx} {X : Cx} {c : Sc} {ex : QE} {S0 : Sto} {H0 : Hp} {hot : Bool}
theorem txt_int {i : Int} {z : List Nat} (h : txtD (.int i) = some z) : i.natAbs.log2 < 1920 ∧ z = digits i := by
  have h : (if i.natAbs < 10 ^ 9 then some (digits i) else none) = some z := h
  by_cases h1 : i.natAbs < 10 ^ 9
  · rw [if_pos h1] at h
    refine ⟨?_, (Option.some.inj h).symm⟩
    by_cases z : Int.natAbs i = 0
    · rw [z]; decide
    · exact Nat.lt_trans ((Nat.log2_lt z).mpr (Nat.lt_of_lt_of_le h1 (by decide : 10 ^ 9 ≤ 2 ^ 30))) (by decide)
  · rw [if_neg h1] at h
    cases h
/-- the parts of an f-string keep their wish -/
def FsJ (T : Tab) (X : Cx) (g : Gx) (S0 : Sto) (H0 : Hp) (ex : QE) (es : Es) (xs : List Expr) : Prop := ∃ ts, PJ X xs ts ∧ ∀ (acc : List Nat) σ H (Q : Str → Hp → Prop), (∀ c ∈ acc, c < 0x110000) →
  (∃ ρ S Qd, Rl g S0 H0 ρ S σ H ∧ wFs T es ex acc ρ S Qd ∧ ∀ (z : List Nat) S' H', RS g S' H' → Step S H S' H' → (∀ c ∈ z, c < 0x110000) → Qd z S' → Q (mkS z) H') → tJs ts (mkS acc) σ H Q
theorem fs_nil : FsJ T X g S0 H0 ex .nil [] := ⟨[], .nil, fun acc σ H Q hc ⟨ρ, S, Qd, r, h, kk⟩ => by
  unfold wFs at h
  exact kk acc S H r.rs (Step.refl S H) hc h⟩
theorem fs_fmt {e : E} {r : Es} {x : Expr} {xs : List Expr} {pos : Pos} (he : PE X x (RE g S0 H0 (wX T e ex).v)) (ih : FsJ T X g S0 H0 ex r xs) : FsJ T X g S0 H0 ex (.cons e r) (.FormattedValue x (-1) none pos :: xs) := by
  obtain ⟨ts, hj, ih⟩ := ih
  refine ⟨_, .cons (pe_fmt he) hj, fun acc σ H Q hc ⟨ρ, S, Qd, rl, h, kk⟩ => ?_⟩
  unfold wFs at h
  refine ⟨ρ, S, _, rl, h, fun v d S1 H1 rd rs1 st1 q => ?_⟩
  obtain ⟨z, hz, hl, q⟩ := q
  have fin : (∀ c ∈ z, c < 0x110000) → ∃ y : Str, V.str (mkS z) = .str y ∧ (mkS acc ++ y).length ≤ sizeLine ∧ tJs ts (mkS acc ++ y) σ H1 Q := fun hcz => by
    refine ⟨mkS z, rfl, ?_, ?_⟩
    · rw [mkS_append, mkS_len, List.length_append]; exact lim_size hl
    · rw [mkS_append]
      refine ih (acc ++ z) σ H1 Q (fun c hc' => ?_) ⟨ρ, S1, Qd, rl.step rs1 st1, q, fun z' S' H' rs' st' hz' q' => kk z' S' H' rs' (st1.trans st') hz' q'⟩
      rcases List.mem_append.mp hc' with hc' | hc'
      · exact hc c hc'
      · exact hcz c hc'
  cases d with
  | str s =>
    obtain ⟨rfl, hcs⟩ := rd.ofStr
    have e : s = z := Option.some.inj hz
    subst e
    refine .inl ⟨mkS s, rfl, by rw [mkS_len]; exact lim_size (by omega), fin hcs⟩
  | int i =>
    rw [rd.ofInt]
    obtain ⟨h1, rfl⟩ := txt_int hz
    refine .inr ⟨i, rfl, h1, ?_⟩
    rw [ofString_digits]
    exact fin (digits_ok _)
  | _ => cases hz
theorem fs_con {s : List Nat} {r : Es} {x : Expr} {xs : List Expr} (he : PE X x (RE g S0 H0 (wX T (.const (.str s)) ex).v)) (ih : FsJ T X g S0 H0 ex r xs) : FsJ T X g S0 H0 ex (.cons (.const (.str s)) r) (x :: xs) := by
  obtain ⟨ts, hj, ih⟩ := ih
  refine ⟨_, .cons he hj, fun acc σ H Q hc ⟨ρ, S, Qd, rl, h, kk⟩ => ?_⟩
  unfold wFs at h
  have h' := h
  unfold wX mkV at h'
  refine ⟨ρ, S, fun d S1 => (d = .str s ∧ S1 = S), rl, ?_, fun v d S1 H1 rd rs1 st1 q => ?_⟩
  · unfold wX mkV
    exact ⟨rfl, rfl⟩
  obtain ⟨rfl, rfl⟩ := q
  obtain ⟨z, hz, hl, q⟩ := h'
  have e : s = z := Option.some.inj hz
  subst e
  obtain ⟨rfl, hcs⟩ := rd.ofStr
  refine ⟨mkS s, rfl, ?_, ?_⟩
  · rw [mkS_append, mkS_len, List.length_append]; exact lim_size hl
  · rw [mkS_append]
    refine ih (acc ++ s) σ H1 Q (fun c hc' => ?_) ⟨ρ, S1, Qd, rl.step rs1 st1, q, fun z' S' H' rs' st' hz' q' => kk z' S' H' rs' (st1.trans st') hz' q'⟩
    rcases List.mem_append.mp hc' with hc' | hc'
    · exact hc c hc'
    · exact hcs c hc'
end
end G
/-! GN: repr of anything: data, own instances, a tuple or a list of one of them. -/
namespace G
open PySem PySem.Spec PyProof.Rows L2
section
variable {g : Gx} {S : Sto} {X : Cx} {H : Hp} {s : Shared} {pins : List (Addr × Obj)} {σ : L2.St}
mutual
theorem RD.readsR (I : L2.Inv X pins σ H s) (hK : X.K = g.K) : ∀ (d : D) (v : V) (u : Value), rokT d = true → RD g S H d v → RelV v u → ∃ as, Reads s.heap u (toPyR d) as ∧ sysModules ∉ as
  | .non, v, u, _, h, r => by
    rw [h.ofNon] at r
    obtain rfl : u = .none := r
    unfold toPyR
    exact ⟨[], .none, by simp⟩
  | .bl b, v, u, _, h, r => by
    rw [h.ofBl] at r
    obtain rfl : u = .bool b := r
    unfold toPyR
    exact ⟨[], .bool b, by simp⟩
  | .int i, v, u, _, h, r => by
    rw [h.ofInt] at r
    obtain ⟨t, rfl⟩ := r
    unfold toPyR
    exact ⟨[], .int i t, by simp⟩
  | .str z, v, u, _, h, r => by
    rw [h.ofStr.1] at r
    obtain ⟨t, rfl⟩ := r
    unfold toPyR
    exact ⟨[], .str _ t, by simp⟩
  | .tup xs, v, u, k, h, r => by
    unfold rokT at k
    obtain ⟨p, vs, rfl, sq, rr⟩ := h.tup
    obtain rfl : u = .ref p := r
    obtain ⟨its, rv, ⟨⟨cls, dd, data, sl⟩, ho, hc, n, hdd⟩, hsz⟩ := I.tuple (hK ▸ sq)
    simp only at hc hdd
    subst hc hdd
    obtain ⟨as, q, no⟩ := RDs.readsR I hK xs vs its k rr rv
    unfold toPyR
    exact ⟨as, .tuple ho rfl rfl (by simpa using q), no⟩
  | .dct ks ds, v, u, k, h, r => by
    unfold rokT at k
    obtain ⟨k1, k2⟩ := ba2 k
    have k1 : ks = [] := by simpa using k1
    have k2 : ds = [] := by simpa using k2
    subst k1 k2
    unfold RD at h
    obtain ⟨a, qs, vs, rfl, ⟨_, _, hH⟩, m, _, rr⟩ := h
    obtain rfl : u = .ref a := r
    have e1 : qs = [] := by
      cases qs with
      | nil => rfl
      | cons _ _ => simp at m
    subst e1
    obtain ⟨_, hsm, vs', kv, ⟨o, es, ep, ho, hx, hd, _, hp, _⟩⟩ := dk_of I.hok hH
    have e2 : vs' = [] := by
      cases kv
      rfl
    subst e2
    have e3 : es.toList = [] := by
      generalize es.toList = l at hp
      cases hp
      rfl
    unfold toPyR
    refine ⟨a :: [] ++ [], .dict ho hx.1 hd (by rw [e3]; exact .nil) (by rw [e3]; exact .nil), ?_⟩
    have := beq_eq_false_iff_ne.mp hsm
    simp [Ne.symm this]
  | .lst _, _, _, k, _, _ => by unfold rokT at k; cases k
  | .lsk _, _, _, k, _, _ => by unfold rokT at k; cases k
  | .obj _, _, _, k, _, _ => by unfold rokT at k; cases k
  | .ty _, _, _, k, _, _ => by unfold rokT at k; cases k
  | .gl _, _, _, k, _, _ => by unfold rokT at k; cases k
  | .ins _ _ _, _, _, k, _, _ => by unfold rokT at k; cases k
  | .exn _ _ _, _, _, k, _, _ => by unfold rokT at k; cases k
theorem RDs.readsR (I : L2.Inv X pins σ H s) (hK : X.K = g.K) : ∀ (ds : List D) (vs : List V) (us : List Value), rokTs ds = true → RDs g S H ds vs → Vals vs us → ∃ as, ReadsAll s.heap us (toPyRs ds) as ∧ sysModules ∉ as
  | [], vs, us, _, h, r => by
    unfold RDs at h
    subst h
    cases r
    unfold toPyRs
    exact ⟨[], .nil, by simp⟩
  | d :: ds, vs, us, k, h, r => by
    unfold rokTs at k
    obtain ⟨k1, k2⟩ := ba2 k
    unfold RDs at h
    obtain ⟨v, vr, rfl, h1, h2⟩ := h
    cases r with
    | cons r1 r2 =>
      obtain ⟨as, q1, n1⟩ := RD.readsR I hK d v _ k1 h1 r1
      obtain ⟨bs, q2, n2⟩ := RDs.readsR I hK ds vr _ k2 h2 r2
      unfold toPyRs
      exact ⟨as ++ bs, .cons q1 q2, by simp [n1, n2]⟩
end
mutual
theorem shownR_ok : ∀ (d : D) (v : V), rokT d = true → RD g S H d v → okC (toPyR d).shown.cps.toList
  | .non, _, _, _ => by unfold toPyR PyData.shown okC; decide +kernel
  | .bl b, _, _, _ => by unfold toPyR PyData.shown okC; cases b <;> decide +kernel
  | .int i, _, _, _ => by
    unfold toPyR PyData.shown
    show okC (Str.ofString (toString i)).cps.toList
    rw [ofString_digits, mkS_list]
    exact digits_ok i
  | .str s, v, _, h => by
    unfold toPyR PyData.shown
    refine reprText_ok ?_
    rw [mkS_list]
    exact h.ofStr.2
  | .tup xs, v, k, h => by
    unfold rokT at k
    obtain ⟨p, vs, rfl, _, rr⟩ := h.tup
    unfold toPyR PyData.shown tupleText
    refine okS_app (okS_app (by unfold okC; decide +kernel) (join_ok _ (shownRs_ok xs vs k rr))) ?_
    split
    · unfold okC; decide +kernel
    · unfold okC; decide +kernel
  | .dct ks ds, _, _, _ => by
    unfold toPyR PyData.shown PyData.shownKv okC
    decide +kernel
  | .lst _, _, k, _ => by unfold rokT at k; cases k
  | .lsk _, _, k, _ => by unfold rokT at k; cases k
  | .obj _, _, k, _ => by unfold rokT at k; cases k
  | .ty _, _, k, _ => by unfold rokT at k; cases k
  | .gl _, _, k, _ => by unfold rokT at k; cases k
  | .ins _ _ _, _, k, _ => by unfold rokT at k; cases k
  | .exn _ _ _, _, k, _ => by unfold rokT at k; cases k
theorem shownRs_ok : ∀ (ds : List D) (vs : List V), rokTs ds = true → RDs g S H ds vs → ∀ t ∈ PyData.shownAll (toPyRs ds), okC t.cps.toList
  | [], _, _, _, t, ht => by unfold toPyRs PyData.shownAll at ht; cases ht
  | d :: ds, vs, k, h, t, ht => by
    unfold rokTs at k
    obtain ⟨k1, k2⟩ := ba2 k
    unfold RDs at h
    obtain ⟨v, vr, rfl, h1, h2⟩ := h
    unfold toPyRs PyData.shownAll at ht
    rcases List.mem_cons.mp ht with rfl | ht
    · exact shownR_ok d v k1 h1
    · exact shownRs_ok ds vr k2 h2 t ht
end
theorem rpr_c {d : D} {v : V} (h : rprB d = true) (r : RD g S H d v) : ∀ c ∈ rprD d, c < 0x110000 := by
  unfold rprD pyR
  unfold rprB at h
  obtain ⟨h1, _⟩ := ba2 h
  by_cases hp : plain d = true
  · rw [if_pos hp]
    exact shown_ok d (r.lay d _ hp)
  · rw [if_neg hp]
    have : rokT d = true := by simpa [hp] using h1
    exact shownR_ok d v this r
theorem rpr_data (I : L2.Inv X pins σ H s) (hK : X.K = g.K) (hgd : X.A.guards = some []) (hu : X.A.units + 66 < cLine) {d : D} {v : V} {u : Value} (r : RD g S H d v) (ru : RelV v u) (hb : rprB d = true) (hl : (rprD d).length ≤ lim) {Q : VK} (q : Q (.str (mkS (rprD d))) H) :
    wpAny (model X.prog X.w) X.A (call (.builtin "repr") [u]) (EP X pins σ Q) X.xe s := by
  unfold rprB at hb
  obtain ⟨h1, h2⟩ := ba2 hb
  obtain ⟨h2, h3⟩ := ba2 h2
  have h3 := of_decide_eq_true h3
  have rd : ∃ as, Reads s.heap u (pyR d) as ∧ ((pyR d).hasDict = true → sysModules ∉ as) := by
    unfold pyR
    by_cases hp : plain d = true
    · rw [if_pos hp]
      have hdp := r.dp d _ hp
      rw [← hK] at hdp
      obtain ⟨as, rr⟩ := Dp.reads I (toPy d) _ _ hdp ru
      exact ⟨as, rr, fun z => by rw [no_dict d] at z; cases z⟩
    · rw [if_neg hp]
      obtain ⟨as, rr, no⟩ := RD.readsR I hK d v u (by simpa [hp] using h1) r ru
      exact ⟨as, rr, fun _ => no⟩
  unfold rprD at hl q
  rw [mkS_eta] at q
  generalize pyR d = p at *
  obtain ⟨as, rr, hs⟩ := rd
  have hz : p.shown.length ≤ sizeLine := lim_size (by rw [← mkS_len, mkS_eta] at hl; exact hl)
  have fin : ∀ h' u tk, (∀ b o, s.heap.get? b = some o → h'.get? b = some o) → EP X pins σ Q (.str p.shown u) { s with heap := h', toks := tk } := fun h' u tk hk => ⟨.str p.shown, H, I.kept (t' := tk) hk, ⟨u, rfl⟩, q⟩
  cases rr with
  | none => exact P.repr_of_none (fin s.heap _ _ fun _ _ e => e)
  | bool b => exact P.repr_of_bool (fin s.heap _ _ fun _ _ e => e)
  | int i t => exact P.repr_of_int (by simpa [PyData.showable] using h2) (fin s.heap _ _ fun _ _ e => e)
  | str x t => exact P.repr_of_str (fin s.heap _ _ fun _ _ e => e) hz
  | list a1 a2 a3 a4 => exact PySem.repr_of_reads' (.list a1 a2 a3 a4) h2 hs hgd (by omega) (fun _ _ e => e) fin hz
  | tuple a1 a2 a3 a4 => exact PySem.repr_of_reads' (.tuple a1 a2 a3 a4) h2 hs hgd (by omega) (fun _ _ e => e) fin hz
  | dict a1 a2 a3 a4 a5 => exact PySem.repr_of_reads' (.dict a1 a2 a3 a4 a5) h2 hs hgd (by omega) (fun _ _ e => e) fin hz
/-! ### own instances -/
theorem under_repr {prog : Program} {w : World} {A : Around} {E : Value → Shared → Prop} {K : PySem.W.Frag} {x C f : Addr} {ox : Obj} {od : Option Obj} {base : Nat} {Q : Str → Shared → Prop} (hb : base ≤ sizeLine) (hu : A.units < cLine) (X : K.In s.heap) (I : PySem.W.InstAt s.heap x ox C od)
    (hs : PySem.W.findIn K (.ref C) "__repr__" = some (some (.ref f))) (hf : PySem.W.isFn K (.ref f) = true) (h : wpAny (model prog w) A (call (.ref f) [.ref x]) (fun v s' => ∃ y t, v = .str y t ∧ Q y s') E s) : wpAny (model prog w) A (pyReprUnder base (.ref x)) Q E s := by
  refine wpAny_pyReprUnder_ref hb ?_
  unfold pyReprObjUnder pyReprObjBy
  refine wpAny_bind (wpAny_cRoomFor hu ?_)
  refine wpAny_bind (wpAny_bind (I.type.here ((PySem.W.looks_findIn X hs).here ?_)))
  show wpAny _ _ (if (some (Value.ref f)).isNone = true then _ else _) _ _ _
  rw [if_neg (by simp)]
  refine wpAny_bind ?_
  simp only [callSpecialIfBoundBy?, bindSpecialIfBound?]
  refine wpAny_holding (wpAny_bind (wpAny_bind (wpAny_bind (I.type.here ((PySem.W.looks_findIn X hs).here ?_)))))
  have fin : ∀ {R : Option Value → Shared → Prop}, (∀ v s', (∃ y t, v = .str y t ∧ Q y s') → R (some v) s') → wpAny (model prog w) A ((match reprUnder? (.ref f), [Value.ref x] with
      | some twin, [self] => call twin [self, rawInt base]
      | _, _ => call (.ref f) ([Value.ref x] ++ [])) >>= fun v => pure (some v)) R E s := fun {R} k =>
    wpAny_bind (wpAny_mono h (fun v s' h' => wpAny_pure (k v s' h')) fun _ _ h' => h')
  have last : ∀ v s', (∃ y t, v = .str y t ∧ Q y s') → wpAny (model prog w) A (match some v with
      | some r => (do if ← isInstance r (.type "str") then pure r else raiseError "TypeError" s!"__repr__ returned non-string (type {← typeNameOf r})")
      | none => unsupported "repr:special-get-raises") (fun v s' => ∃ y t, v = .str y t ∧ Q y s') E s' := by
    rintro v s' ⟨y, t, rfl, q⟩
    refine wpAny_bind (wpAny_isInstance (typeIs_str _ _ _) isSubtype_str_str ?_)
    exact wpAny_pure ⟨y, t, rfl, q⟩
  refine wpAny_bind (wpAny_askSetting (wpAny_ite ?_))
  split
  · exact wpAny_bind ((PySem.W.bind_fn X _ (beq_iff_eq.mp hf)).here (wpAny_pure (fin fun v s' k => last v s' k)))
  · exact wpAny_tryCatch (wpAny_bind ((PySem.W.bind_fn X _ (beq_iff_eq.mp hf)).here (wpAny_pure (fin fun v s' k => last v s' k))))
end
section
variable {T : Tab} {k : Nat} {g : Gx} {X : Cx} {c : Sc} {ex : QE} {S0 : Sto} {H0 : Hp} {pins : List (Addr × Obj)} {σ : L2.St} {H : Hp} {s : Shared}
/-- it is called; what is told, and what stays that nobody tracks -/
theorem run_q {A : Around} {f : Addr} {fd : FuncData} {ps : List Str} {sp : Sp} {us : List Value} {vs : List V} {Q : VK} (F : FnQ X.prog X.w X.K X.mg X.base (L2N.CX X.prog X.w) f fd ps sp) (hr : A.depth < recursionLimit) (hf : A.frames = X.A.frames)
    (bt : BindsTo s fd ⟨us, []⟩ (ps.zip us)) (I : L2.Inv X pins σ H s) (rv : Vals vs us) (q : sp vs H Q (fun _ _ _ => False)) :
    wpAny (model X.prog X.w) A (call (.ref f) us) (fun u s' => EP X pins σ Q u s' ∧ ∀ b o, s.heap.get? b = some o → H b = none → b ∉ frs X.stack → s'.heap.get? b = some o) (fun _ _ => False) s := by
  have e := I.env0
  have e0 : Env0 X.prog X.w X.K X.mg X.base A X.stack s H := ⟨by rw [hf]; exact e.frames, e.mod, e.bs, e.bsz, e.funs, e.frf, e.hok, e.bare⟩
  have z := F.goes A X.stack s H ⟨us, []⟩ us vs Q (fun _ _ _ => False) hr e0 bt rv q
  refine wpAny_call (codeAny_mono z fun o s' ho => ?_)
  match o, ho with
  | .error e, ho => exact cx_no ho
  | .ok (.ret u), ho =>
    refine ⟨I.after ho, fun b o h1 h2 h3 => ?_⟩
    obtain ⟨_, _, _, _, un, _⟩ := ho
    exact un.keep b o h1 h2 h3 (by simp)
  | .ok .next, ho => exact (show False from ho).elim
  | .ok .brk, ho => exact (show False from ho).elim
  | .ok .cont, ho => exact (show False from ho).elim
theorem log_small {i : Int} (h : i.natAbs < 10 ^ 9) : i.natAbs.log2 < 1920 := by
  by_cases z : Int.natAbs i = 0
  · rw [z]; decide
  · exact Nat.lt_trans ((Nat.log2_lt z).mpr (Nat.lt_of_lt_of_le h (by decide : 10 ^ 9 ≤ 2 ^ 30))) (by decide)
theorem rp_rel {K : PySem.W.Frag} {S : Sto} {fs : List (Str × D)} {gs : List (Str × V)} (hK : g.K = K) (rs : RS g S H) (rf : RFs g S H fs gs) (p : Rpt) (a : List Nat) (h : rpD S fs p = some a) : rpV K H gs p a ∧ ∀ c ∈ a, c < 0x110000 := by
  cases p with
  | txt t =>
    have h : (if (t.all fun c => decide (c < 0x110000)) = true then some t else none) = some a := h
    split at h
    · rename_i e
      cases h
      exact ⟨rfl, fun c hc => by simpa using List.all_eq_true.mp e c hc⟩
    · cases h
  | fld f =>
    have h : rpFld (fs.lookup f) = some a := h
    cases e : fs.lookup f with
    | none => rw [e] at h; cases h
    | some d =>
      rw [e] at h
      cases d with
      | int i =>
        have h : (if i.natAbs < 10 ^ 9 then some (digits i) else none) = some a := h
        split at h
        · rename_i e2
          cases h
          obtain ⟨v, lv, rv⟩ := (RFs.look rf).1 _ e
          rw [rv.ofInt] at lv
          exact ⟨⟨i, lv, log_small e2, rfl⟩, digits_ok i⟩
        · cases h
      | _ => cases h
  | len f =>
    have h : rpLen S (fs.lookup f) = some a := h
    cases e : fs.lookup f with
    | none => rw [e] at h; cases h
    | some d =>
      rw [e] at h
      have h : (match seqOf S d with
        | some xs => if xs.length < 10 ^ 9 then some (digits (xs.length : Int)) else none
        | none => none) = some a := h
      split at h
      · rename_i xs e2
        split at h
        · rename_i e3
          cases h
          obtain ⟨v, lv, rv⟩ := (RFs.look rf).1 _ e
          obtain ⟨q, ws, rfl, sq, r'⟩ := rv.seq rs e2
          have e4 : xs.length = ws.length := r'.length
          exact ⟨⟨q, ws, lv, hK ▸ sq, log_small (by rw [← e4]; omega), by rw [e4]⟩, digits_ok _⟩
        · cases h
      · cases h
theorem rps_rel {K : PySem.W.Frag} {S : Sto} {fs : List (Str × D)} {gs : List (Str × V)} (hK : g.K = K) (rs : RS g S H) (rf : RFs g S H fs gs) : ∀ {ps : List Rpt} {z : List Nat}, rpsD S fs ps = some z → rpsV K H gs ps z ∧ ∀ c ∈ z, c < 0x110000
  | [], z, h => by
    have h : some ([] : List Nat) = some z := h
    cases h
    exact ⟨rfl, fun c hc => by cases hc⟩
  | p :: r, z, h => by
    unfold rpsD at h
    split at h
    · rename_i a b h1 h2
      cases h
      obtain ⟨k1, k2⟩ := rp_rel hK rs rf p a h1
      obtain ⟨k3, k4⟩ := rps_rel hK rs rf h2
      exact ⟨⟨a, b, rfl, k1, k3⟩, fun c hc => (List.mem_append.mp hc).elim (k2 c) (k4 c)⟩
    · cases h
theorem RD.lstS {S : Sto} {H : Hp} {a : Addr} {xs : List D} (r : RD g S H (.lst xs) (.ref a)) : S a = none := by
  unfold RD at r
  obtain ⟨b, vs, e, h, _⟩ := r
  cases e
  exact h
/-- an own instance shows itself, in any surroundings that have room -/
theorem own_shows (gd : Good T k g X c ex S0 H0) {S : Sto} {y : D} {v : V} {u : Value} {A : Around} (I : L2.Inv X pins σ H s) (rs : RS g S H) (r : RD g S H y v) (ru : RelV v u) {z : List Nat} (h : rprI T S y = some z) (hl : z.length ≤ lim) (hr : A.depth < recursionLimit) (hf : A.frames = X.A.frames) :
    ∃ (a C f : Addr) (ox : Obj) (od : Option Obj), (u = .ref a ∧ v = .ref a) ∧ (∀ cc ∈ z, cc < 0x110000) ∧ PySem.W.InstAt s.heap a ox C od ∧ PySem.W.findIn X.K (.ref C) "__repr__" = some (some (.ref f)) ∧ PySem.W.isFn X.K (.ref f) = true ∧
      wpAny (model X.prog X.w) A (call (.ref f) [.ref a]) (fun v s' => ∃ x t, v = .str x t ∧ x = mkS z ∧ L2.Inv X pins σ H s' ∧ ∀ b o, s.heap.get? b = some o → H b = none → b ∉ frs X.stack → s'.heap.get? b = some o) (fun _ _ => False) s := by
  obtain ⟨K, mg, B⟩ := g
  have e1 : X.K = K := gd.gK
  have e2 : X.mg = mg := gd.gm
  subst e1 e2
  unfold rprI at h
  split at h
  · rename_i C fs hi
    split at h
    · rename_i ps hp
      obtain ⟨a, c', dx, gs, rfl, hm, hx, _, rf⟩ := r.inst rs hi
      obtain ⟨c1, f, fd, self, hm1, mt, F, b⟩ := gd.ge.rps C ps hp
      rw [hm1] at hm
      obtain rfl : c1 = c' := Value.ref.inj (Option.some.inj hm)
      obtain rfl : u = Value.ref a := ru
      obtain ⟨k1, k2⟩ := rps_rel (g := ⟨X.K, X.mg, B⟩) rfl rs rf h
      obtain ⟨mA, J, _⟩ := ins_get I.hok hx
      obtain ⟨od, J, _⟩ := J.look
      refine ⟨a, c1, f, _, od, ⟨rfl, rfl⟩, k2, J, mt.at_, mt.fn, ?_⟩
      have sp : spRp X.K X.mg C ps [.ref a] H (fun v H' => v = .str (mkS z) ∧ H' = H) (fun _ _ _ => False) := ⟨a, c1, dx, gs, z, rfl, hm1, hx, k1, hl, rfl, rfl⟩
      have bt : BindsTo s fd ⟨[.ref a], []⟩ ([self].zip [.ref a]) := by
        have := b s [.ref a] I.kIn rfl
        simpa using this
      have rv : Vals [V.ref a] [Value.ref a] := .cons rfl .nil
      refine wpAny_mono (run_q F hr hf bt I rv sp) (fun r s' z => ?_) fun _ _ e => e
      obtain ⟨⟨v, H', I', rz, ev, eH⟩, st⟩ := z
      subst ev eH
      obtain ⟨t, rfl⟩ := rz
      exact ⟨_, t, rfl, rfl, I', st⟩
    · cases h
  · cases h
theorem tup_one (z : List Nat) : tupleText [mkS z] = mkS (40 :: (z ++ [44, 41])) := by
  show ((Str.ofString "(") ++ mkS z) ++ (Str.ofString ",)") = _
  have h1 : Str.ofString "(" = mkS [40] := by kernel_rfl
  have h2 : Str.ofString ",)" = mkS [44, 41] := by kernel_rfl
  rw [h1, h2, mkS_append, mkS_append]
  rfl
theorem lst_one (z : List Nat) : listText [mkS z] = mkS (91 :: (z ++ [93])) := by
  show ((Str.ofString "[" ++ Str.ofString "") ++ mkS z) ++ (Str.ofString "]") = _
  have h1 : Str.ofString "[" = mkS [91] := by kernel_rfl
  have h2 : Str.ofString "]" = mkS [93] := by kernel_rfl
  have h3 : Str.ofString "" = mkS [] := by kernel_rfl
  rw [h1, h2, h3, mkS_append, mkS_append, mkS_append]
  rfl
end
section
open Builtin Builtin.List
variable {prog : Program} {w : World}
theorem weight_tuple (args : Args) : (Code.builtin "tuple.__repr__" args).weight = 1 := by kernel_rfl
theorem weight_loop (args : Args) : (Code.builtin "list.__repr__.loop" args).weight = 1 := by kernel_rfl
theorem under_depth (A : Around) (c : Code) : (A.under c).depth = A.depth + c.weight := by
  first | rfl | simp [Around.under]
/-- the repr of a tuple of one thing -/
theorem tuple1_at {a : Addr} {o : Obj} {u : Value} {n : Nat} {A : Around} {s : Shared} {R : Result → Shared → Prop} {z : Str} {P : Shared → Prop} {id : String} {rest : List Value} (ha : s.heap.get? a = some o) (hd : o.data = .seq #[u] n) (hg : A.guards = some [])
    (hit : wpAny (model prog w) (A.under (.builtin id ⟨.ref a :: rest, []⟩)) (pyReprUnder 1 u) (fun t s' => t = z ∧ P s') (fun e s' => R (.error e) s') s)
    (hR : ∀ s' tk, P s' → R (.ok (.ret (.str (tupleText [z]) tk))) { s' with toks := s'.toks + 1 }) (hsz : (tupleText [z]).length ≤ sizeLine) :
    wpOwn (model prog w) A (.builtin id ⟨.ref a :: rest, []⟩) (Builtin.tupleReprAt 0 ⟨[.ref a], []⟩) (fun fin s' => match fin with | .done f => R (.ok f) s' | .again c' => c'.quiet = true ∧ codeAny (model prog w) A c' R s') (fun e s' => R (.error e) s') s := by
  rw [tuple_repr_tree, tupleReprUnderWay_eq]
  refine wpOwn_bind (wpOwn_stackTailAny hg (tupGuardF_off _) (tupGuardF_pos _) ?_)
  refine wpOwn_of_wpAny ?_
  show wpAny _ _ (tupleReprRest 0 (.ref a)) _ _ s
  unfold tupleReprRest Builtin.Tuple.tupleItemsOf
  refine wpAny_bind (wpAny_bind (wpAny_seqItems ha hd (wpAny_pure ?_)))
  rw [← Array.forIn_toList]
  show wpAny _ _ (forIn [u] _ _ >>= _) _ _ _
  rw [List.forIn_cons]
  refine wpAny_bind (wpAny_bind (wpAny_bind (wpAny_mono hit (fun t s' h => ?_) fun _ _ e => e)))
  obtain ⟨rfl, h⟩ := h
  refine wpAny_pure ?_
  simp only [List.forIn_nil]
  refine wpAny_pure ?_
  exact wpAny_bind (wpAny_mkStr (wpAny_pure (hR s' _ h)) hsz)
theorem list1_at {a : Addr} {o : Obj} {u : Value} {n : Nat} {A : Around} {s : Shared} {R : Result → Shared → Prop} {z : Str} {P : Shared → Shared → Prop} (ha : s.heap.get? a = some o) (hd : o.data = .seq #[u] n) (hg : A.guards = some [])
    (hit : ∀ A' : Around, A'.depth = A.depth + 1 → A'.frames = A.frames → A'.units = A.units + 1 → ∀ s1 : Shared, s1 = { s with heap := s.heap.push { cls := .type "list", data := .seq #[] } } → wpAny (model prog w) A' (pyReprUnder 1 u) (fun t s' => t = z ∧ P s1 s') (fun e s' => R (.error e) s') s1)
    (hP : ∀ s1 s', P s1 s' → ∃ o' nP, s'.heap.get? s.heap.objs.size = some { cls := .type "list", data := .seq #[] nP } ∧ s'.heap.get? a = some o' ∧ ∃ n', o'.data = .seq #[u] n')
    (hR : ∀ s1 s' tk tk2 tk3, P s1 s' → R (.ok (.ret (.str (listText [z]) tk))) { s' with heap := s'.heap.update s.heap.objs.size (Obj.mapSeq (·.push (.str z tk2))), toks := tk3 }) (hsz : (listText [z]).length ≤ sizeLine) (hz : z.length ≤ sizeLine) :
    wpAny (model prog w) A.in1 (Builtin.listReprAt 0 ⟨[.ref a], []⟩) (fun fin s' => match fin with | .done f => R (.ok f) s' | .again c' => c'.quiet = true ∧ codeAny (model prog w) A c' R s') (fun e s' => R (.error e) s') s := by
  have hne : a ≠ s.heap.objs.size := Nat.ne_of_lt (Heap.lt_size ha)
  refine wpAny_list_repr_head (A := A.in1) (g := []) hg (fun v rest kw hm => nomatch hm) ha (x := u) (l := []) (n := n) hd ?_
  refine wpAny_bind (m := newList []) (wpAny_newObj_type ?_)
  refine wpAny_pure ⟨F.quiet_list_repr_loop _, ?_⟩
  refine codeAny_builtin F.entry_list_repr_loop ?_
  show wpAny _ _ («list.__repr__.loop» ⟨[.ref a, .int 0 0, .ref s.heap.objs.size, .int 0 0], []⟩) _ _ _
  rw [repr_loop_tree]
  refine wpAny_bind (wpAny_listItems (Heap.get?_push_of_some _ ha) hd ?_)
  have hsome : (#[u] : Array Value)[(0 : Int).toNat]? = some u := rfl
  simp only [hsome]
  refine wpAny_bind (wpAny_holding (wpAny_mono (hit _ (by rw [under_depth, weight_loop]) (by first | rfl | simp [Around.under, Code.cUnits, Code.frames, Code.isFrame]) (units_under_list_loop _ _) _ rfl) (fun t s2 h => ?_) fun _ _ e => e))
  obtain ⟨rfl, h⟩ := h
  obtain ⟨o', nP, h1, h2, n', h3⟩ := hP _ _ h
  refine wpAny_bind (wpAny_mkStr ?_ hz)
  refine wpAny_bind ?_
  show wpAny _ _ (updateSeq s.heap.objs.size _) _ _ _
  refine wpAny_updateSeq h1 rfl (wpAny_pure ⟨F.quiet_list_repr_loop _, ?_⟩) (by simp)
  refine codeAny_builtin F.entry_list_repr_loop ?_
  show wpAny _ _ («list.__repr__.loop» ⟨[.ref a, .int 1 0, .ref s.heap.objs.size, .int _ 0], []⟩) _ _ _
  rw [repr_loop_tree]
  refine wpAny_bind (wpAny_listItems ((Heap.get?_update_other _ _ (Ne.symm hne)).trans h2) h3 ?_)
  have hnone : (#[u] : Array Value)[(1 : Int).toNat]? = none := rfl
  simp only [hnone]
  unfold reprEnd
  refine wpAny_bind (wpAny_listItems (Heap.get?_update_self _ h1 rfl) rfl ?_)
  have hacc : ((#[] : Array Value).push (.str t s2.toks)).toList = strValues [(t, s2.toks)] := rfl
  rw [hacc, repr_fold]
  refine wpAny_bind (wpAny_pure ?_)
  exact wpAny_bind (wpAny_mkStr (wpAny_pure (hR _ _ _ _ _ h)) hsz)
end
section
variable {T : Tab} {k : Nat} {g : Gx} {X : Cx} {c : Sc} {ex : QE} {S0 : Sto} {H0 : Hp}
def R1p (g : Gx) (o : D → Sto → QV → Prop) : List V → Hp → VK → Prop := fun xs H Q => ∃ x d S Qd, xs = [x] ∧ RD g S H d x ∧ RS g S H ∧ o d S Qd ∧ ∀ (z : List Nat) S' H', RS g S' H' → Step S H S' H' → (∀ c ∈ z, c < 0x110000) → Qd (.str z) S' → Q (.str (mkS z)) H'
theorem rpr_sound (gd : Good T k g X c ex S0 H0) : CallR X (.builtin "repr") (R1p g (rprS T)) := by
  intro pins s σ H vs us Q I rv hr
  obtain ⟨x, d, S, Qd, rfl, r, rs, ⟨z, hz, hl, q⟩, kk⟩ := hr
  obtain ⟨u, rfl, ru⟩ := vals1 rv
  have hun := gd.room.un
  have hdp := gd.room.dp
  unfold rprV at hz
  split at hz
  · rename_i hb
    cases hz
    exact rpr_data I gd.gK gd.gds (by omega) r ru hb hl (kk _ S H rs (Step.refl S H) (rpr_c hb r) q)
  split at hz
  · rename_i y hny
    cases e : rprI T S y with
    | none => rw [e] at hz; cases hz
    | some z1 =>
      rw [e] at hz
      cases hz
      obtain ⟨p, ws, rfl, sq, rr⟩ := r.tup
      obtain rfl : u = .ref p := ru
      obtain ⟨v, rfl, r1⟩ := rr.one
      obtain ⟨its, rv1, ⟨o, ho, hc, n, hdd⟩, hsz⟩ := I.tuple (gd.gK ▸ sq)
      cases rv1 with
      | cons ra rb =>
        cases rb
        rename_i u1
        have hl1 : z1.length ≤ lim := by rw [List.length_cons, List.length_append] at hl; omega
        refine call_repr_slot (by omega) ⟨o, ho, hc⟩ F.slot_tuple_repr (wpAny_call (codeAny_call_builtin_own (Code.quiet_builtin _ (by decide +kernel)) F.entry_tuple_repr (F.slot_tuple_repr.check _ _ _ _ _ _ _ _ ⟨o, ho, hc⟩ (F.args_tuple_repr_1 _) ?_)))
        have cz : ∀ cc ∈ z1, cc < 0x110000 := by
          obtain ⟨_, _, _, _, _, _, h2, _⟩ := own_shows gd (A := X.A) I rs r1 ra e hl1 (by omega) rfl
          exact h2
        refine tuple1_at (R := callEnd (fun v s2 => ∃ x t, v = .str x t ∧ EP X pins σ Q v s2) X.xe) (A := X.A.in1) (z := mkS z1) (P := fun s' => L2.Inv X pins σ H s') ho (by simpa using hdd) gd.gds ?_ (fun s' tk J => ?_) ?_
        · obtain ⟨a, C, f, ox, od, ⟨rfl, rfl⟩, h2, h3, h4, h5, h6⟩ := own_shows gd (A := X.A.in1.under (.builtin "tuple.__repr__" ⟨.ref p :: [], []⟩)) I rs r1 ra e hl1 (by rw [under_depth, weight_tuple]; show X.A.depth + 1 < _; omega) (by first | rfl | simp [Around.under, Code.cUnits, Code.frames, Code.isFrame])
          refine under_repr (by rw [sizeLine_eq]; omega) (by rw [units_under_tuple_repr]; show X.A.units + 1 + 1 < _; omega) I.kIn h3 h4 h5 (wpAny_mono h6 (fun v s' z => ?_) fun _ _ e => e.elim)
          obtain ⟨x, t, h7, h8, J, _⟩ := z
          exact ⟨x, t, h7, h8, J⟩
        · refine ⟨_, tk, rfl, .str (mkS (40 :: (z1 ++ [44, 41]))), H, J.tok _, ⟨tk, by rw [tup_one]⟩, kk _ S H rs (Step.refl S H) (fun cc hcc => ?_) q⟩
          simp only [List.mem_cons, List.mem_append, List.not_mem_nil, or_false] at hcc
          rcases hcc with rfl | hcc | rfl | rfl
          · decide
          · exact cz cc hcc
          · decide
          · decide
        · rw [tup_one, mkS_len]
          exact lim_size hl
  · rename_i y hny
    cases e : rprI T S y with
    | none => rw [e] at hz; cases hz
    | some z1 =>
      rw [e] at hz
      cases hz
      obtain ⟨p, ws, rfl, sq, rr⟩ := r.lst
      obtain rfl : u = .ref p := ru
      obtain ⟨v, rfl, r1⟩ := rr.one
      have hl1 : z1.length ≤ lim := by rw [List.length_cons, List.length_append] at hl; omega
      obtain ⟨its, rv1, ⟨o, n, ho, hc, _, hdd⟩, hsz⟩ := I.list (.inl sq)
      cases rv1 with
      | cons ra rb =>
        cases rb
        rename_i u1
        have cz : ∀ cc ∈ z1, cc < 0x110000 := by
          obtain ⟨_, _, _, _, _, _, h2, _⟩ := own_shows gd (A := X.A) I rs r1 ra e hl1 (by omega) rfl
          exact h2
        have nP : H s.heap.objs.size = none := I.hok.fresh (Nat.le_refl _)
        obtain ⟨rs1, st1⟩ := rs.frozen (o := .lst []) nP
        refine call_repr_slot (by omega) ⟨o, ho, hc⟩ F.slot_list_repr.toG (wpAny_call (codeAny_call_builtin F.slot_list_repr.plain F.entry_list_repr (F.slot_list_repr.check _ _ _ _ _ _ _ _ ⟨o, ho, hc⟩ (F.args_list_repr_1 _) ?_)))
        refine list1_at (R := callEnd (fun v s2 => ∃ x t, v = .str x t ∧ EP X pins σ Q v s2) X.xe) (A := X.A.in1) (z := mkS z1) (P := fun s1 s' => L2.Inv X pins σ (upd H s.heap.objs.size (.lst [])) s' ∧ ∀ b o, s1.heap.get? b = some o → (upd H s.heap.objs.size (.lst [])) b = none → b ∉ frs X.stack → s'.heap.get? b = some o) ho (by simpa using hdd) gd.gds (fun A' d1 d2 d3 s1 es1 => ?_) (fun s1 s' hp => ?_) (fun s1 s' tk tk2 tk3 hp => ?_) ?_ ?_
        · subst es1
          have I1 : L2.Inv X pins σ (upd H s.heap.objs.size (.lst [])) { s with heap := s.heap.push { cls := .type "list", data := .seq #[] } } := I.laid (t' := s.toks) (o := .lst []) (fun b o e => Heap.get?_push_of_some _ e) (Nat.le_refl _) ⟨Nat.zero_le _, [], 0, .nil, Heap.get?_push_size _ rfl⟩
          obtain ⟨a, C, f, ox, od, ⟨rfl, rfl⟩, h2, h3, h4, h5, h6⟩ := own_shows gd (A := A') I1 rs1 (r1.mono st1) ra e hl1 (by rw [d1]; show X.A.depth + 1 < _; omega) d2
          refine under_repr (by rw [sizeLine_eq]; omega) (by rw [d3]; show X.A.units + 1 + 1 < _; omega) I1.kIn h3 h4 h5 (wpAny_mono h6 (fun v s' z => ?_) fun _ _ e => e.elim)
          obtain ⟨x, t, h7, h8, J, st⟩ := z
          exact ⟨x, t, h7, h8, J, st⟩
        · obtain ⟨J, _⟩ := hp
          obtain ⟨itp, np, rp, hp1, _⟩ := J.lst upd_same
          cases rp
          obtain ⟨a, C, f, ox, od, ⟨rfl, rfl⟩, _⟩ := own_shows gd (A := X.A) I rs r1 ra e hl1 (by omega) rfl
          obtain ⟨its', rv', ⟨o', n', ho', _, _, hdd'⟩, _⟩ := J.list (.inl (st1.rd r.lstS sq).2)
          cases rv' with
          | cons rc rd =>
            cases rd
            cases rc
            exact ⟨o', np, hp1, ho', n', by simpa using hdd'⟩
        · obtain ⟨J, _⟩ := hp
          obtain ⟨itp, np, rp, hp1, _⟩ := J.lst upd_same
          cases rp
          have rs2 : Vals [V.str (mkS z1)] [Value.str (mkS z1) tk2] := .cons ⟨tk2, rfl⟩ .nil
          have J2 := J.lstUpd (ys := [.str (mkS z1)]) (its' := [.str (mkS z1) tk2]) (n' := np + 1) (f := Obj.mapSeq (·.push (.str (mkS z1) tk2))) upd_same hp1 rfl rs2 (by rw [sizeLine_eq]; show 1 ≤ _; omega) tk3
          rw [upd_upd] at J2
          obtain ⟨rs3, st3⟩ := rs.frozen (o := .lst [.str (mkS z1)]) nP
          refine ⟨_, tk, rfl, .str (mkS (91 :: (z1 ++ [93]))), _, J2, ⟨tk, by rw [lst_one]⟩, kk _ S _ rs3 st3 (fun cc hcc => ?_) q⟩
          simp only [List.mem_cons, List.mem_append, List.not_mem_nil, or_false] at hcc
          rcases hcc with rfl | hcc | rfl
          · decide
          · exact cz cc hcc
          · decide
        · rw [lst_one, mkS_len]
          exact lim_size hl
        · rw [mkS_len]
          exact lim_size hl1
  · obtain ⟨a, C, f, ox, od, ⟨rfl, rfl⟩, h2, h3, h4, h5, h6⟩ := own_shows gd (A := X.A.in1) I rs r ru hz hl (by show X.A.depth < _; omega) rfl
    obtain ⟨m, hF⟩ := I.fr
    refine PySem.W.repr_K (by show X.A.units + 1 < _; omega) hF I.ok.mod.kin h3 h4 h5 (wpAny_mono h6 (fun v s' zz => ?_) fun _ _ e => e.elim)
    obtain ⟨x, t, rfl, rfl, J, _⟩ := zz
    exact ⟨.str (mkS z), H, J, ⟨t, rfl⟩, kk _ S H rs (Step.refl S H) h2 q⟩
theorem s_rpr (gd : Good T k g X c ex S0 H0) {w : Sl → Sto → QV → Prop} {a : Expr} {p pos : Pos} (hg : glB (c.kd ("repr" : Str)) = true) (hn : noStar a = true) (ha : PE X a (RE g S0 H0 w)) :
    PE X (.Call (.Name "repr" p) [a] [] pos) (RE g S0 H0 fun ρ S Q => w ρ S fun x S1 => rprS T x S1 Q) := by
  refine (pe_callB (rpr_sound gd) (gd.gl hg) (by rw [gd.gm]; exact gd.ge.blt _ (by decide +kernel)) (boot_bi .repr) (pa_cons ha pa_nil (star_cons hn)) (by decide) (by decide) (star_cons hn) rfl).imp fun σ H Q h => ?_
  obtain ⟨ρ, S, Qd, r, h, kk⟩ := h
  refine ⟨ρ, S, _, r, h, fun x d S1 H1 rd1 rs1 st1 q1 => ?_⟩
  exact ⟨x, d, S1, _, rfl, rd1, rs1, q1, fun z S2 H2 rs2 st2 hz q2 => kk _ _ S2 H2 (rd_str hz) rs2 (st1.trans st2) q2⟩
end
end G
/-! GW: try, clauses with one class or several, the caught error kept as a value. -/
namespace G
open PySem PySem.Spec PyProof.Rows L2
section
variable {X : Cx} {pins : List (Addr × Obj)} {σ : L2.St} {H : Hp} {s : Shared}
/-- a caught error becomes one of the tracked things -/
theorem adoptX {a c : Addr} {d : Option Addr} {oe : Obj} {vs : Array Value} (I : L2.Inv X pins σ H s) (ha : s.heap.get? a = some oe) (hc : oe.cls = .ref c) (hd : oe.dict = d) (hv : oe.data = .fields vs) (hn : vs[2]? = some .none) (na : H a = none) (nL : a ≠ X.env.locals)
    (n0 : X.s_0.heap.get? a = none) (np : ∀ p ∈ X.pn ++ pins, p.1 ≠ a) : L2.Inv (X.suite a (X.pn ++ pins)) [] σ (upd H a (exT a c d)) s := by
  have nc : ∀ x cc, X.env.cells.lookup x = some cc → cc ≠ a := fun x cc e z => by
    obtain ⟨v, o, ho, hd'⟩ := I.cell x cc e
    rw [z, ha] at ho
    cases ho
    rw [hv] at hd'
    cases hd'
  refine ⟨I.ok.suite _ _, I.os, I.bare, ⟨I.base.keep, I.base.slot, fun b o e n hx => ?_, I.base.there, fun b xs e => ?_, fun b o v e => ?_, fun b ps e => ?_⟩, I.loc, I.cell, ?_, fun x cc e => ?_, fun p hp => ?_, fun b o e => ?_, I.len⟩
  · rw [upd_ne (fun z => by rw [z, n0] at e; cases e)]; exact I.base.free b o e n hx
  · have z := I.base.tups b xs e
    rw [upd_ne (ne_of_none z na)]; exact z
  · have z := I.base.frzs b o v e
    rw [upd_ne (ne_of_none z na)]; exact z
  · obtain ⟨m, z⟩ := I.base.tbls b ps e
    exact ⟨m, by rw [upd_ne (ne_of_none z na)]; exact z⟩
  · show upd H a (exT a c d) X.env.locals = none
    rw [upd_ne (Ne.symm nL)]; exact I.free
  · rw [upd_ne (nc x cc e)]; exact I.freeC x cc e
  · have hp' : p ∈ X.pn ++ pins := by rw [List.append_nil] at hp; exact hp
    obtain ⟨h1, h2, h3, h4, h5⟩ := I.pin p hp'
    exact ⟨h1, by rw [upd_ne (np p hp')]; exact h2, h3, h4, h5⟩
  · by_cases hb : b = a
    · subst hb
      rw [upd_same] at e
      cases e
      exact exT_ok ha hc hd hv hn
    · rw [upd_ne hb] at e
      exact (I.hok b o e).stay (fun _ _ _ y => y) (fun cc hc => by rw [upd_ne (ne_of_none hc na)]; exact hc) fun cc xs hc => by rw [upd_ne (ne_of_none hc na)]; exact hc
theorem unsuiteX {a : Addr} {pn' : List (Addr × Obj)} (I : L2.Inv (X.suite a (X.pn ++ pins)) pn' σ H s) (ok : X.Ok) : L2.Inv X pins σ H s :=
  ⟨ok, I.os, I.bare, I.base, I.loc, I.cell, I.free, I.freeC, (fun p hp => I.pin p (List.mem_append_left pn' hp)), I.hok, I.len⟩
theorem fly_keep {B h h' : Heap} {l : List Env} {a : Addr} {Z : Obj → Prop} (f : HandSPX.FlyingZ B l a Z h) (k : ∀ b o, h.get? b = some o → h'.get? b = some o) : HandSPX.FlyingZ B l a Z h' := by
  obtain ⟨f1, f2, f3, oe, vs, T, oT, ts, e1, e2, e3, e4, e5, e6, e7, e8⟩ := f
  exact ⟨fun b o e => k b o (f1 b o e), f2, f3.of_keeps fun b o e _ => ⟨o, k b o e, rfl⟩, oe, vs, T, oT, ts, k _ _ e1, e2, e3, e4, e5, e6, k _ _ e7, e8⟩
end
/-- an except clause's classes -/
inductive NmsOk (X : Cx) : List Expr → List Value → Prop
  | nil : NmsOk X [] []
  | cons {x : Str} {np : Pos} {u : Value} {ys : List Expr} {us : List Value} (h : Names X x u) (r : NmsOk X ys us) : NmsOk X (.Name x np :: ys) (u :: us)
def Clause (X : Cx) (t : Expr) (us : List Value) : Prop := (∃ x np u, t = .Name x np ∧ us = [u] ∧ Names X x u) ∨ ∃ ys n p, t = .Tuple ys n p ∧ (us.length = 2 ∨ us.length = 3) ∧ NmsOk X ys us
section
variable {X : Cx} {pn : List (Addr × Obj)} {σ : L2.St} {H : Hp} {s : Shared} {a : Addr}
theorem nm_ev {x : Str} {np : Pos} {u : Value} (I : L2.Inv (X.suite a pn) [] σ H s) (h : Names X x u) {Q : Value → Shared → Prop} {E : Value → Shared → Prop} (q : Q u s) : wpAny (model X.prog X.w) (X.A.mark (some (.ref a))) (eval (.Name x np) X.env) Q E s := by
  obtain ⟨hg, hdb, hm | ⟨hm, hv, hn⟩⟩ := h
  · exact ld_glob (X := X.suite a pn) I hg hm q hdb
  · exact ld_blt (X := X.suite a pn) I hg hm hv q hn hdb
theorem nms_ev {pos : Pos} (I : L2.Inv (X.suite a pn) [] σ H s) {E : Value → Shared → Prop} : ∀ {ys : List Expr} {us : List Value}, NmsOk X ys us → ∀ {Q : List Value → Shared → Prop}, Q us s → wpAny (model X.prog X.w) (X.A.mark (some (.ref a))) (spliced (backTo pos (starEach ys X.env))) Q E s
  | _, _, .nil, Q, q => Calls.spliced_nil q
  | _, _, .cons (x := x) (np := np) (ys := ys) h r, Q, q => by
    show wpAny _ _ (spliced ((false, eval (.Name x np) X.env) :: backTo pos (starEach ys X.env))) _ _ s
    exact Calls.spliced_cons (nm_ev I h (wpAny_mono (nms_ev I r (Q := fun vs s1 => vs = _ ∧ s1 = s) ⟨rfl, rfl⟩) (fun vs s1 z => by rw [z.1, z.2]; exact q) fun _ _ z => z))
/-- the clause's look at the error -/
theorem test_ok {t : Expr} {us : List Value} {cls : Value} {b : Bool} (I : L2.Inv (X.suite a pn) [] σ H s) (LT : PySem.W.Looks (model X.prog X.w) s.heap (typeOf (.ref a)) cls) (hx : PySem.W.exmAny X.K cls us = some b) (hc : Clause X t us) {Q : Bool → Shared → Prop} {E E' : Value → Shared → Prop}
    (q : ∀ h4, (∀ b o, s.heap.get? b = some o → h4.get? b = some o) → Q b { s with heap := h4 }) :
    wpAny (model X.prog X.w) (X.A.mark (some (.ref a))) (eval t X.env) (fun c s1 => wpAny (model X.prog X.w) (X.A.mark (some (.ref a))) (excMatches (.ref a) c) Q E' s1) E s := by
  rcases hc with ⟨x, np, u, rfl, rfl, hn⟩ | ⟨ys, n, p, rfl, hl, hn⟩
  · obtain ⟨b1, d1, x1, y1, z1⟩ := PySem.W.exmAny_cons hx
    have w : some false = some d1 := y1
    cases w
    rw [Bool.or_false] at z1
    subst z1
    exact nm_ev I hn ((PySem.W.exm_one I.kIn LT x1).here (q s.heap fun _ _ z => z))
  · refine wpAny_Tuple_spliced (nms_ev I hn ⟨by rw [sizeLine_eq]; omega, ?_⟩)
    have k : ∀ b o, s.heap.get? b = some o → (s.heap.push { cls := .type "tuple", data := .seq us.toArray }).get? b = some o := fun b o e => Heap.get?_push_of_some _ e
    have tp : (s.heap.push { cls := .type "tuple", data := .seq us.toArray }).get? s.heap.objs.size = some { cls := .type "tuple", data := .seq us.toArray } := Heap.get?_push_size _ rfl
    have kin : X.K.In (s.heap.push { cls := .type "tuple", data := .seq us.toArray }) := I.kIn.keeps k
    match us, hl, hx, tp, kin with
    | [c1, c2], _, hx, tp, kin => exact (PySem.W.exm_tup2 kin (LT.keeps k) tp hx).here (q _ k)
    | [c1, c2, c3], _, hx, tp, kin => exact (PySem.W.exm_tup3 kin (LT.keeps k) tp hx).here (q _ k)
    | [], hl, _, _, _ => simp at hl
    | [_], hl, _, _, _ => simp at hl
    | _ :: _ :: _ :: _ :: _, hl, _, _, _ => simp at hl
end
def wipeI (i : Option Nat) (σ : L2.St) : L2.St := match i with | some i => σ.set i none | none => σ
def putI (i : Option Nat) (a : Addr) (σ : L2.St) : L2.St := match i with | some i => σ.set i (some (.ref a)) | none => σ
def backI (i : Option Nat) (D : Ends) : Ends := { nx := fun σ H => D.nx (wipeI i σ) H, rt := D.rt, bk := fun σ H => D.bk (wipeI i σ) H, ct := fun σ H => D.ct (wipeI i σ) H }
abbrev ClX := List Value × Option Nat × (Addr → TS)
/-- what the clauses wish of an error, one behind the other -/
def wCl (K : PySem.W.Frag) (Wout : WX) (D : Ends) : List ClX → WX
  | [] => Wout
  | (us, i, ts) :: r => fun cls d σ H => ∃ b, PySem.W.exmAny K cls us = some b ∧ (b = true → ∃ c, cls = .ref c ∧ ∀ a, H a = none → ts a (backI i D) (putI i a σ) (upd H a (exT a c d))) ∧ (b = false → wCl K Wout D r cls d σ H)
def AsOk (X : Cx) : Option Nat → Option Str → Prop
  | none, none => True
  | some i, some n => X.N[i]? = some n ∧ X.env.kindOf n = some .local
  | _, _ => False
inductive ClOk (X : Cx) : List ExceptHandler → List ClX → Prop
  | nil : ClOk X [] []
  | cons {t : Expr} {us : List Value} {i : Option Nat} {nm : Option Str} {ts : Addr → TS} {b0 : Stmt} {suite : List Stmt} {pos' : Pos} {hds : List ExceptHandler} {l : List ClX} (hc : Clause X t us) (hn : AsOk X i nm)
      (hsu : ∀ (a : Addr) (pn : List (Addr × Obj)), PSs (X.suite a pn) (b0 :: suite) (ts a)) (r : ClOk X hds l) : ClOk X (.ExceptHandler (some t) nm (b0 :: suite) pos' :: hds) ((us, i, ts) :: l)
section
variable {X : Cx} {body : List Stmt} {h0 : ExceptHandler} {hds : List ExceptHandler} {l : List ClX} {pos : Pos} {tb : WX → TS} {Wout : WX}
theorem ps_tryX (hs : X.stack = X.env :: X.outer) (hf : X.env.frame = some X.env.locals) (hex : X.ex = []) (hN : X.N.Nodup) (tk : L2N.Takes X Wout)
    (hb : ∀ (W : WX) (pn : List (Addr × Obj)) (xe : Value → Shared → Prop), L2N.Takes (X.tr pn xe) W → PassesOwn (model X.prog X.w) X.A X.env xe → PSs (X.tr pn xe) body (tb W)) (hh : ClOk X (h0 :: hds) l) :
    PS X (.Try body (h0 :: hds) [] [] pos) (fun D σ H => tb (wCl X.K Wout D l) D σ H) := by
  refine ⟨fun pins s σ H D I h => ?_⟩
  have ok := I.ok
  have hfr : X.A.frames = some (X.env :: X.outer) := by rw [ok.frames, hs]
  refine wpAny_Try_except ?_
  refine wpAny_mono ((hb (wCl X.K Wout D l) (X.pn ++ pins) (fun e s₁ => wpAny (model X.prog X.w) X.A (noteFrame e X.env) (fun _ s₂ => wpAny (model X.prog X.w) X.A (setFlight e none) (fun _ s₃ => wpAny (model X.prog X.w) X.A (handleBy e X.env (h0 :: hds)) (SP X pins D) X.xe s₃) X.xe s₂) X.xe s₁) (fun u s' xx => ?_) PassesOwn.looking).run [] s σ H D (I.toTry _) h) (fun f s1 hsp => ?_) (fun e s1 he => he)
  · obtain ⟨a, B, sI, pins', σ1, H1, cls, d, rfl, J', nb, up, sky, na, os, ag, w⟩ := xx
    have J : L2.Inv X pins σ1 H1 sI := J'.ofTry ok
    have sky' : Sky B (X.env :: X.outer) a (L2N.Zn cls d) X.env.locals s'.heap := by rw [← hs]; exact sky
    show wpAny (model X.prog X.w) X.A (noteFrame (.ref a) X.env) _ _ _
    refine L2N.Sky.land L2N.Zn.steady hfr hf sky' fun h3 fl3 up3 => ?_
    have key : ∀ {hh : Heap}, HandSPX.FlyingZ B (X.env :: X.outer) a (L2N.Zn cls d) hh → ∃ oe vs, hh.get? a = some oe ∧ L2N.Zn cls d oe ∧ oe.data = .fields vs ∧ a ∉ frs (X.env :: X.outer) := fun {hh} f => by
      obtain ⟨oe, vs, e1, e2, e3⟩ := f.there
      refine ⟨oe, vs, e1, e2, e3, fun hm => ?_⟩
      obtain ⟨_, o', e', hnf⟩ := f.2.2.1.mem hm
      rw [e1] at e'
      cases e'
      exact hnf _ e3
    obtain ⟨_, _, _, _, _, nfr⟩ := key fl3
    have nL : a ≠ X.env.locals := fun z => nfr (List.mem_filterMap.mpr ⟨X.env, List.mem_cons_self, by rw [hf, z]⟩)
    have nS : sI.heap.get? a = none := by
      cases e : sI.heap.get? a with
      | none => rfl
      | some o => have := nb a o e (by rw [hs]; exact nfr); rw [fl3.2.1] at this; cases this
    have n0 : X.s_0.heap.get? a = none := by
      cases e : X.s_0.heap.get? a with
      | none => rfl
      | some o => obtain ⟨o', e'⟩ := J.base.there a o e (by rw [hex]; simp); rw [nS] at e'; cases e'
    have np : ∀ p ∈ X.pn ++ pins, p.1 ≠ a := fun p hp z => by
      have := (J.pin p hp).1
      rw [z, nS] at this
      cases this
    have go : ∀ {hds' : List ExceptHandler} {l' : List ClX}, ClOk X hds' l' → wCl X.K Wout D l' cls d σ1 H1 → ∀ hp : Heap, HandSPX.FlyingZ B (X.env :: X.outer) a (L2N.Zn cls d) hp → sI.heap.UpToSlots hp →
        wpAny (model X.prog X.w) X.A (handleBy (.ref a) X.env hds') (SP X pins D) X.xe { s' with heap := hp } := by
      intro hds' l' hk
      induction hk with
      | nil =>
        intro w hp fl upp
        refine wpAny_handleBy_nil ?_
        obtain ⟨k1, k2, k3, oe, vs, T, oT, ts', he, hz, hd, h1, hr⟩ := id fl
        unfold PySem.passOn
        refine wpAny_bind (wpAny_field he hd h1 ?_)
        rw [if_neg (show ¬ ((Value.ref T == Value.none) = true) from by simp)]
        have fin : wpAny (model X.prog X.w) X.A (setFlight (.ref a) X.env.frame) (fun _ s4 => wpAny (model X.prog X.w) X.A (throw (.ref a) : Sem Flow) (SP X pins D) X.xe s4) X.xe { s' with heap := hp } := by
          rw [hf]
          exact HandSPX.setFlight_upZ fl fun h4 hh4 up4 => wpAny_throw (tk _ _ ⟨a, B, sI, pins, σ1, H1, cls, d, rfl, J, nb, upp.trans up4, .inr (.inr (by rw [hs]; exact hh4)), na, os, ag, w⟩)
        first | exact wpAny_bind (wpAny_pure (wpAny_bind fin)) | exact wpAny_bind fin
      | @cons t us i nm ts b0 suite pos' hds2 l2 hc hn hsu r ih =>
        intro w hp fl upp
        obtain ⟨b, hb1, hyes, hno⟩ := w
        obtain ⟨oe, vs, he, hz, hd, _⟩ := key fl
        have J3 : L2.Inv X pins σ1 H1 { s' with heap := hp } := J.landed nb fl.1 upp os ag
        have nF : a ∉ X.fs := fun hm => by
          obtain ⟨e, he, q⟩ := List.mem_filterMap.mp hm
          exact nfr (List.mem_filterMap.mpr ⟨e, List.mem_cons_of_mem _ he, q⟩)
        have S3 := J3.suite he hd na nL nF
        refine wpAny_handleBy_cons (codeAny_handlers_test ?_) (by intro q; cases q)
        have LT : PySem.W.Looks (model X.prog X.w) hp (typeOf (.ref a)) cls := fun A Q E s k q => wpAny_typeOf_ref (k _ _ he) (by rw [hz.1]; exact q)
        refine test_ok S3 LT hb1 hc fun h4 k4 => ?_
        have fl4 := fly_keep fl k4
        have up4 : sI.heap.UpToSlots h4 := upp.trans (Heap.UpToSlots.of_keeps k4)
        cases b with
        | false =>
          show wpAny _ X.A (handleBy (.ref a) X.env hds2) _ _ _
          exact ih (hno rfl) h4 fl4 up4
        | true =>
          obtain ⟨c, rfl, hy2⟩ := hyes rfl
          have run : ∀ h5, HandSPX.FlyingZ B (X.env :: X.outer) a (L2N.Zn (.ref c) d) h5 → sI.heap.UpToSlots h5 → L2.Inv (X.suite a (X.pn ++ pins)) [] σ1 (upd H1 a (exT a c d)) { s' with heap := h5 } := fun h5 fl5 up5 => by
            obtain ⟨oe5, vs5, he5, hz5, hd5, _⟩ := key fl5
            exact adoptX (J.landed nb fl5.1 up5 os ag) he5 hz5.1 hz5.2.1 hd5 (hz5.2.2 _ hd5) na nL n0 np
          cases i with
          | none =>
            cases nm with
            | some _ => exact hn.elim
            | none =>
              refine codeAny_handlers_suite ?_
              refine HandSPX.lands_againZ fl4 fun h5 fl5 up5 => ?_
              refine wpAny_mono ((hsu a (X.pn ++ pins)).run [] _ _ _ _ (run h5 fl5 (up4.trans up5)) (hy2 a na)) (fun f s6 hsp => ?_) (fun _ _ z => False.elim z)
              cases f with
              | next => obtain ⟨σ6, H6, S6, q6⟩ := hsp; exact ⟨_, _, unsuiteX S6 ok, q6⟩
              | brk => obtain ⟨σ6, H6, S6, q6⟩ := hsp; exact ⟨_, _, unsuiteX S6 ok, q6⟩
              | cont => obtain ⟨σ6, H6, S6, q6⟩ := hsp; exact ⟨_, _, unsuiteX S6 ok, q6⟩
              | ret u => obtain ⟨v6, σ6, H6, S6, r6, q6⟩ := hsp; exact ⟨_, _, _, unsuiteX S6 ok, r6, q6⟩
          | some i =>
            cases nm with
            | none => exact hn.elim
            | some n =>
              obtain ⟨hi, hln⟩ := hn
              refine codeAny_handlers_suite_as ?_
              refine HandSPX.lands_againZ fl4 fun h5 fl5 up5 => ?_
              refine store_ok (X := X.suite a (X.pn ++ pins)) (v := .ref a) (run h5 fl5 (up4.trans up5)) hN hi (.inl hln) rfl (fun s5 S5 => ?_) (.inr hln)
              refine wpAny_mono ((hsu a (X.pn ++ pins)).run [] s5 _ _ _ S5 (hy2 a na)) (fun f s6 hsp => ?_) (fun _ _ z => False.elim z)
              have fin : ∀ {σ6 : L2.St} {H6 : Hp} {Q : Shared → Prop}, L2.Inv (X.suite a (X.pn ++ pins)) [] σ6 H6 s6 → (∀ s7, L2.Inv X pins (σ6.set i none) H6 s7 → Q s7) →
                  wpAny (model X.prog X.w) X.A (do bindName X.env n .none; unbindBehindTheSuite X.env n pos') (fun _ s7 => Q s7) X.xe s6 := fun {σ6 H6 Q} S6 hq => gone_ok (unsuiteX S6 ok) hN hi hln hq
              cases f with
              | next => obtain ⟨σ6, H6, S6, q6⟩ := hsp; exact fin S6 fun s7 J7 => ⟨_, _, J7, q6⟩
              | brk => obtain ⟨σ6, H6, S6, q6⟩ := hsp; exact fin S6 fun s7 J7 => ⟨_, _, J7, q6⟩
              | cont => obtain ⟨σ6, H6, S6, q6⟩ := hsp; exact fin S6 fun s7 J7 => ⟨_, _, J7, q6⟩
              | ret u => obtain ⟨v6, σ6, H6, S6, r6, q6⟩ := hsp; exact fin S6 fun s7 J7 => ⟨_, _, _, J7, r6, q6⟩
    exact go hh w h3 fl3 (up.trans up3)
  · cases f with
    | next => obtain ⟨σ', H', J', q⟩ := hsp; exact wpAny_execs_nil ⟨σ', H', J'.ofTry ok, q⟩
    | brk => obtain ⟨σ', H', J', q⟩ := hsp; exact ⟨σ', H', J'.ofTry ok, q⟩
    | cont => obtain ⟨σ', H', J', q⟩ := hsp; exact ⟨σ', H', J'.ofTry ok, q⟩
    | ret u => obtain ⟨v, σ', H', J', r, q⟩ := hsp; exact ⟨v, σ', H', J'.ofTry ok, r, q⟩
end
end G
/-! G12: every expression that matches keeps its wish. -/
namespace G
open PySem L2
section
variable {T : Tab} {k : Nat}
def Snd (T : Tab) (k : Nat) (e : E) (x : Expr) (c : Sc) : Prop := ∀ g X ex S0 H0, Good T k g X c ex S0 H0 → PE X x (RE g S0 H0 (wX T e ex).v) ∧ PT X x (RT g S0 H0 (wX T e ex).t)
def SndS (T : Tab) (k : Nat) (es : Es) (xs : List Expr) (c : Sc) : Prop := xs.all noStar = true ∧ ∀ g X ex S0 H0, Good T k g X c ex S0 H0 → PA X xs (RA g S0 H0 (wEs T es ex)) ∧ (xs = [] → wEs T es ex = fun _ S Q => Q [] S)
def SndO (T : Tab) (k : Nat) (e : Eo) (x : Option Expr) (c : Sc) : Prop := ∀ g X ex S0 H0, Good T k g X c ex S0 H0 → PO X x (RP g S0 H0 (wO T e ex))
def SndI (T : Tab) (k : Nat) (it : It) (x tg : Expr) (c : Sc) : Prop := ∀ g X ex S0 H0, Good T k g X c ex S0 H0 → PI X tg x (RI g S0 H0 (wI T it ex))
def SndIB (T : Tab) (k : Nat) (it : It) (x tg : Expr) (c : Sc) : Prop := it.rg = true → ∀ g X ex S0 H0, Good T k g X c ex S0 H0 → PIB X tg x (RI g S0 H0 (wI T it ex))
def SndB (T : Tab) (k : Nat) (op : BoolOp) (es : Es) (xs : List Expr) (c : Sc) : Prop := xs ≠ [] → ∀ g X ex S0 H0, Good T k g X c ex S0 H0 → ∀ pos, PE X (.BoolOp op xs pos) (RE g S0 H0 (wB T op es ex).v) ∧ PW X (.BoolOp op xs pos) (RT g S0 H0 (wB T op es ex).t)
theorem s_val {g : Gx} {X : Cx} {c : Sc} {ex : QE} {S0 : Sto} {H0 : Hp} (gd : Good T k g X c ex S0 H0) {w : Sl → Sto → QV → Prop} {a : Expr} (ha : PE X a (RE g S0 H0 w)) (hw : ∀ whole : Sem Value, PySem.isTrue a X.env whole = do let v ← whole; standAt a.pos; holding [v] (truthy v)) :
    PE X a (RE g S0 H0 (mkV w).v) ∧ PT X a (RT g S0 H0 (mkV w).t) := ⟨ha, s_truth gd ha hw⟩
theorem no_mark {op : CmpOp} {b : Expr} (h : noSet b = true) : behindInMarks op b = false := by cases b <;> first | rfl | cases h
theorem hot_no {b : Bool} (h : (!b) = true) : b = false := by cases b <;> first | rfl | cases h
theorem blk_good {g : Gx} {X : Cx} {c : Sc} {ex : QE} {S0 S0' : Sto} {H0 H0' : Hp} {B : List Addr} (gd : Good T k g X c ex S0 H0) {scope : Scope} (s : Shared) (H : Hp) (C : Addr) (cl : List (Str × Addr)) (fp : List Addr) :
    Good T k ⟨g.K, g.mg, B⟩ (X.blk s H scope (compEnvC scope cl C X.env) fp) (c.blk scope) (fun _ _ _ => False) S0' H0' where
  gK := gd.gK
  gm := gd.gm
  N := gd.N
  sc := by
    show relS scope X.env.scope = relS scope c.sc
    rw [gd.sc]
  fnk := rfl
  nd := gd.nd
  calm := fun z => gd.calm z
  room := gd.room
  gds := gd.gds
  ge := gd.ge
  hotc := fun a b => by
    have a : c.hot = true := a
    have b : c.hot = false := b
    rw [a] at b; cases b
  tk := fun u s' ⟨_, _, _, _, _, _, _, _, _, _, _, _, _, _, _, _, w⟩ => by
    obtain ⟨_, _, _, _, _, z⟩ := w
    exact z.elim
theorem own_slots {N : List Str} {is : List Nat} (h : (ownOf N is).length = is.length) : (ownOf N is).map (·.2) = is := by
  induction is with
  | nil => rfl
  | cons i is ih =>
    unfold ownOf at h ⊢
    have hle : (List.filterMap (fun i => (N[i]?).map fun x => (x, i)) is).length ≤ is.length := List.length_filterMap_le ..
    cases e : N[i]? with
    | none =>
      rw [List.filterMap_cons, e] at h
      simp only [Option.map_none, List.length_cons] at h
      omega
    | some x =>
      rw [List.filterMap_cons, e] at h ⊢
      simp only [Option.map_some, List.length_cons, Nat.add_right_cancel_iff, List.map_cons] at h ⊢
      have := ih h
      unfold ownOf at this
      rw [this]
theorem ands {a b : Bool} (h : (a && b) = true) : a = true ∧ b = true := by rwa [Bool.and_eq_true] at h
theorem ne_dbg {x y : Str} (h : (!(x == y)) = true) : (x == y) = false := by simpa using h
theorem hot_two {a b r : Bool} (h : (!a || (!b && r)) = true) (z : a = true) : b = false ∧ r = true := by
  subst z
  cases b <;> cases r <;> first | exact ⟨rfl, rfl⟩ | cases h
/-- a comprehension's parts -/
def LcParts (hot : Bool) (X : Cx) (elt' : Expr) (gs : List Comprehension) (scope : Scope) (t : TE) : Prop :=
  ∃ (tg it : Expr) (ifs : List Expr) (wi : TI) (gt : TG) (tt : TT) (te : TE) (own : List (Str × Nat)), gs = [⟨tg, it, ifs, 0⟩] ∧ ((hot = false → PI X tg it wi) ∧ (hot = true → PIB X tg it wi)) ∧ BlkOk X.N X.env.scope scope own ∧
    (∀ (s : Shared) (H : Hp) (C : Addr) (cl : List (Str × Addr)) (fp : List Addr), PG (X.blk s H scope (compEnvC scope cl C X.env) fp) tg gt) ∧
    (∀ (s : Shared) (H : Hp) (C : Addr) (cl : List (Str × Addr)) (fp : List Addr), PTs (X.blk s H scope (compEnvC scope cl C X.env) fp) ifs tt) ∧
    (∀ (s : Shared) (H : Hp) (C : Addr) (cl : List (Str × Addr)) (fp : List Addr), PE (X.blk s H scope (compEnvC scope cl C X.env) fp) elt' te) ∧
    (∀ x, foldedSetIterable it X.env x = pure x) ∧ (∀ σ H Q, t σ H Q → tLc wi gt tt te (own.map (·.2)) σ H Q) ∧ (hot = true → ∀ σ H Q, t σ H Q → tLcB (HotS X.A) wi gt tt te (own.map (·.2)) σ H Q)
def mQ (c : Sc) : Eo → Expr → Bool
  | .no, _ => false
  | .yes e, x => mE c e x
def SndQ (T : Tab) (k : Nat) (e : Eo) (x : Expr) (c : Sc) : Prop := ∀ g X ex S0 H0, Good T k g X c ex S0 H0 → PT X x (RT g S0 H0 (wTo T e ex))
theorem lc_parts {fz : Bool} {elt : E} {tg : Tg} {it : It} {ifs : Eo} {elt' : Expr} {gs : List Comprehension} {scope : Scope} {pos : Pos} {c : Sc} (h : mE c (.lc fz elt tg it ifs) (.ListComp elt' gs scope pos) = true)
    (i1 : ∀ x c, mE c elt x = true → Snd T k elt x c) (i2 : ∀ x tg c, mI c it x tg = true → SndI T k it x tg c) (i4 : ∀ x tg c, mI c it x tg = true → SndIB T k it x tg c) (i3 : ∀ x c, mQ c ifs x = true → SndQ T k ifs x c) :
    ∀ g X ex S0 H0, Good T k g X c ex S0 H0 → LcParts c.hot X elt' gs scope (RE g S0 H0 (wX T (.lc fz elt tg it ifs) ex).v) := by
  have hA := ands h
  clear h
  obtain ⟨hz', h⟩ := hA
  split at h
  · rename_i tg' it' ifs'
    obtain ⟨h, h7⟩ := ands h
    obtain ⟨h, h6⟩ := ands h
    obtain ⟨h, h5⟩ := ands h
    obtain ⟨h, h4⟩ := ands h
    obtain ⟨h, h3⟩ := ands h
    obtain ⟨h1, h2⟩ := ands h
    have ho := own_slots (of_decide_eq_true h4)
    intro g X ex S0 H0 gd
    have hi := i2 it' tg' c h1 g X ex S0 H0 gd
    have hs : ∀ x, foldedSetIterable it' X.env x = pure x := by
      intro x
      cases it' <;> first | rfl | cases h2
    have ok : BlkOk X.N X.env.scope scope (ownOf c.N (tgSlots tg)) := by
      rw [gd.N, gd.sc]
      exact blkOk_by h3
    obtain ⟨K, mg, B⟩ := g
    have hg : ∀ (s : Shared) (H : Hp) (C : Addr) (cl : List (Str × Addr)) (fp : List Addr), PG (X.blk s H scope (compEnvC scope cl C X.env) fp) tg' (RGa K mg (wG tg) (tgSlots tg)) :=
      fun s H C cl fp => ⟨fun pins s' σ H' x v Q I r ⟨B', S0', H0', q⟩ => (sG (blk_good gd s H C cl fp) tg tg' h5).run pins s' σ H' x v Q I r q⟩
    have he : ∀ (s : Shared) (H : Hp) (C : Addr) (cl : List (Str × Addr)) (fp : List Addr), PE (X.blk s H scope (compEnvC scope cl C X.env) fp) elt' (REa K mg fun ρ S Q => (wX T elt fun _ _ _ => False).v ρ S Q) :=
      fun s H C cl fp => ⟨fun pins s' σ H' Q I ⟨B', S0', H0', q⟩ => (i1 elt' (c.blk scope) h6 ⟨K, mg, B'⟩ _ _ S0' H0' (blk_good gd s H C cl fp)).1.run pins s' σ H' Q I q⟩
    have ht : ∀ (s : Shared) (H : Hp) (C : Addr) (cl : List (Str × Addr)) (fp : List Addr), PTs (X.blk s H scope (compEnvC scope cl C X.env) fp) ifs' (RTa K mg (wTo T ifs fun _ _ _ => False)) := by
      intro s H C cl fp
      cases ifs with
      | no =>
        cases ifs' with
        | cons _ _ => exact nomatch (show false = true from h7)
        | nil =>
          refine ⟨fun pins s' σ H' Q I q => pts_nil.run pins s' σ H' Q I ?_⟩
          obtain ⟨B', S0', H0', ρ, S, Qd, r, hh, kk⟩ := q
          unfold wTo at hh
          exact kk true S H' r.rs (Step.refl S H') hh
      | yes e =>
        cases ifs' with
        | nil => exact nomatch (show false = true from h7)
        | cons t r0 =>
          cases r0 with
          | cons _ _ => exact nomatch (show false = true from h7)
          | nil =>
            refine ⟨fun pins s' σ H' Q I q => ?_⟩
            obtain ⟨B', S0', H0', ρ, S, Qd, r, hh, kk⟩ := q
            exact (pts_one (i3 _ (c.blk scope) (show mE (c.blk scope) e t = true from h7) ⟨K, mg, B'⟩ _ _ S0' H0' (blk_good gd s H C cl fp))).run pins s' σ H' Q I ⟨ρ, S, Qd, r, hh, kk⟩
    refine ⟨tg', it', ifs', _, _, _, _, ownOf c.N (tgSlots tg), rfl, ⟨fun _ => hi, fun z => i4 it' tg' c h1 (hot_two hz' z).2 _ X ex S0 H0 gd⟩, ok, hg, ht, he, hs, fun σ H Q q => ?_, fun z σ H Q q => ?_⟩
    · rw [ho]
      unfold wX at q
      exact lc_read q
    · rw [ho]
      unfold wX at q
      exact lc_readZ (fun S' H' st => ((gd.hoth fun _ => (hot_two hz' z).1).step st).s) q
  · cases h
/-- a name of this def is bound to a new dict that a comprehension lays, on its own line -/
theorem set_dc {X : Cx} {kx vx tg it : Expr} {ifs : List Expr} {scope : Scope} {own : List (Str × Nat)} {pos spos py : Pos} {i : Nat} {y : Str} {wi : TI} {g : TG} {tt : TT} {tk tv : TE} (hc : X.calm = true) (hN : X.N.Nodup)
    (hy : X.N[i]? = some y) (hl : X.env.scope.names.lookup y = some .local) (hw : swapsWith (.DictComp kx vx [⟨tg, it, ifs, 0⟩] scope pos) (some (.Name y py)) spos.line X.env = pure true) (hi : PI X tg it wi) (ok : BlkOk X.N X.env.scope scope own)
    (hg : ∀ (s : Shared) (H : Hp) (C : Addr) (cl : List (Str × Addr)) (fp : List Addr), PG (X.blk s H scope (compEnvC scope cl C X.env) fp) tg g) (ht : ∀ (s : Shared) (H : Hp) (C : Addr) (cl : List (Str × Addr)) (fp : List Addr), PTs (X.blk s H scope (compEnvC scope cl C X.env) fp) ifs tt)
    (hk : ∀ (s : Shared) (H : Hp) (C : Addr) (cl : List (Str × Addr)) (fp : List Addr), PE (X.blk s H scope (compEnvC scope cl C X.env) fp) kx tk) (he : ∀ (s : Shared) (H : Hp) (C : Addr) (cl : List (Str × Addr)) (fp : List Addr), PE (X.blk s H scope (compEnvC scope cl C X.env) fp) vx tv)
    (hs : ∀ x, foldedSetIterable it X.env x = pure x) : PS X (.Assign [.Name y py] (.DictComp kx vx [⟨tg, it, ifs, 0⟩] scope pos) spos) (tAsg (tDc wi g tt tk tv (own.map (·.2))) (gName i)) := ⟨fun pins s σ H N I q => by
  rw [exec_Assign_Name_used _ _ _ _ hw]
  refine wpAny_bind (wpAny_standAt (wpAny_bind ?_))
  show wpAny _ X.A (do let _ ← comprehension (.DictComp kx vx [⟨tg, it, ifs, 0⟩] scope pos) scope X.env (firstIterPos [⟨tg, it, ifs, 0⟩] pos) newDict false (eval it X.env) (some (assign (.Name y py) X.env))) _ _ s
  have q : tDc wi g tt tk tv (own.map (·.2)) σ H (fun x H1 => gName i x σ H1 N.nx) := q
  refine wpAny_bind (thn (dc_core (Qf := fun _ s' => SP X pins N .next s') hc hN I hi ok hg ht hk he hs q fun D C t m H' J z ns fp => ?_) fun _ t z => wpAny_pure (wpAny_pure z))
  show wpAny _ _ (assign (.Name y py) X.env (.ref D)) _ _ _
  refine wpAny_assign_Name (store_ok2 (v := V.ref D) J hN hy (.inl hl) rfl (fun t2 J2 ⟨a, sb, ha⟩ => ?_) (.inr hl))
  have ne : C ≠ a := ha.elim (fun e => e ▸ fp.2.1) (fun e h => fp.2.2.2.2.1 y a e h.symm)
  exact ⟨m, ns.sameBut sb ne, fun _ s3 => ⟨_, H', J2.turned (t' := t2.toks) (fun b _ hb e => (s3.2 b hb).trans e) fp.1 fp.2.1 fp.2.2.2.1 fp.2.2.2.2.1 fp.2.2.2.2.2, z⟩⟩⟩
theorem dc_sound {fz : Bool} {kx vx : E} {tg : Tg} {it : It} {ifs : Eo} {kx' vx' : Expr} {gs : List Comprehension} {scope : Scope} {pos : Pos} {c : Sc} (h : mE c (.dc fz kx vx tg it ifs) (.DictComp kx' vx' gs scope pos) = true)
    (i0 : ∀ x c, mE c kx x = true → Snd T k kx x c) (i1 : ∀ x c, mE c vx x = true → Snd T k vx x c) (i2 : ∀ x tg c, mI c it x tg = true → SndI T k it x tg c) (i3 : ∀ x c, mQ c ifs x = true → SndQ T k ifs x c) :
    ∀ g X ex S0 H0, Good T k g X c ex S0 H0 → PE X (.DictComp kx' vx' gs scope pos) (RE g S0 H0 (wX T (.dc fz kx vx tg it ifs) ex).v) ∧
      ∀ (i : Nat) (y : Str) (py spos : Pos), X.N[i]? = some y → X.env.scope.names.lookup y = some .local → swapsWith (.DictComp kx' vx' gs scope pos) (some (.Name y py)) spos.line X.env = pure true →
        PS X (.Assign [.Name y py] (.DictComp kx' vx' gs scope pos) spos) (tAsg (RE g S0 H0 (wX T (.dc fz kx vx tg it ifs) ex).v) (gName i)) := by
  have hA := ands h
  clear h
  obtain ⟨hz', h⟩ := hA
  have hz := hot_no hz'
  split at h
  · rename_i tg' it' ifs'
    obtain ⟨h, h7⟩ := ands h
    obtain ⟨h, h8⟩ := ands h
    obtain ⟨h, h6⟩ := ands h
    obtain ⟨h, h5⟩ := ands h
    obtain ⟨h, h4⟩ := ands h
    obtain ⟨h, h3⟩ := ands h
    obtain ⟨h1, h2⟩ := ands h
    have ho := own_slots (of_decide_eq_true h4)
    intro g X ex S0 H0 gd
    have hi := i2 it' tg' c h1 g X ex S0 H0 gd
    have hs : ∀ x, foldedSetIterable it' X.env x = pure x := by
      intro x
      cases it' <;> first | rfl | cases h2
    have ok : BlkOk X.N X.env.scope scope (ownOf c.N (tgSlots tg)) := by
      rw [gd.N, gd.sc]
      exact blkOk_by h3
    obtain ⟨K, mg, B⟩ := g
    have hg : ∀ (s : Shared) (H : Hp) (C : Addr) (cl : List (Str × Addr)) (fp : List Addr), PG (X.blk s H scope (compEnvC scope cl C X.env) fp) tg' (RGa K mg (wG tg) (tgSlots tg)) :=
      fun s H C cl fp => ⟨fun pins s' σ H' x v Q I r ⟨B', S0', H0', q⟩ => (sG (blk_good gd s H C cl fp) tg tg' h5).run pins s' σ H' x v Q I r q⟩
    have hk : ∀ (s : Shared) (H : Hp) (C : Addr) (cl : List (Str × Addr)) (fp : List Addr), PE (X.blk s H scope (compEnvC scope cl C X.env) fp) kx' (REa K mg fun ρ S Q => (wX T kx fun _ _ _ => False).v ρ S Q) :=
      fun s H C cl fp => ⟨fun pins s' σ H' Q I ⟨B', S0', H0', q⟩ => (i0 kx' (c.blk scope) h6 ⟨K, mg, B'⟩ _ _ S0' H0' (blk_good gd s H C cl fp)).1.run pins s' σ H' Q I q⟩
    have he : ∀ (s : Shared) (H : Hp) (C : Addr) (cl : List (Str × Addr)) (fp : List Addr), PE (X.blk s H scope (compEnvC scope cl C X.env) fp) vx' (REa K mg fun ρ S Q => (wX T vx fun _ _ _ => False).v ρ S Q) :=
      fun s H C cl fp => ⟨fun pins s' σ H' Q I ⟨B', S0', H0', q⟩ => (i1 vx' (c.blk scope) h8 ⟨K, mg, B'⟩ _ _ S0' H0' (blk_good gd s H C cl fp)).1.run pins s' σ H' Q I q⟩
    have ht : ∀ (s : Shared) (H : Hp) (C : Addr) (cl : List (Str × Addr)) (fp : List Addr), PTs (X.blk s H scope (compEnvC scope cl C X.env) fp) ifs' (RTa K mg (wTo T ifs fun _ _ _ => False)) := by
      intro s H C cl fp
      cases ifs with
      | no =>
        cases ifs' with
        | cons _ _ => exact nomatch (show false = true from h7)
        | nil =>
          refine ⟨fun pins s' σ H' Q I q => pts_nil.run pins s' σ H' Q I ?_⟩
          obtain ⟨B', S0', H0', ρ, S, Qd, r, hh, kk⟩ := q
          unfold wTo at hh
          exact kk true S H' r.rs (Step.refl S H') hh
      | yes e =>
        cases ifs' with
        | nil => exact nomatch (show false = true from h7)
        | cons t r0 =>
          cases r0 with
          | cons _ _ => exact nomatch (show false = true from h7)
          | nil =>
            refine ⟨fun pins s' σ H' Q I q => ?_⟩
            obtain ⟨B', S0', H0', ρ, S, Qd, r, hh, kk⟩ := q
            exact (pts_one (i3 _ (c.blk scope) (show mE (c.blk scope) e t = true from h7) ⟨K, mg, B'⟩ _ _ S0' H0' (blk_good gd s H C cl fp))).run pins s' σ H' Q I ⟨ρ, S, Qd, r, hh, kk⟩
    have rd : ∀ σ H Q, RE ⟨K, mg, B⟩ S0 H0 (wX T (.dc fz kx vx tg it ifs) ex).v σ H Q → tDc (RI ⟨K, mg, B⟩ S0 H0 (wI T it ex)) (RGa K mg (wG tg) (tgSlots tg)) (RTa K mg (wTo T ifs fun _ _ _ => False)) (REa K mg fun ρ S Q => (wX T kx fun _ _ _ => False).v ρ S Q) (REa K mg fun ρ S Q => (wX T vx fun _ _ _ => False).v ρ S Q) ((ownOf c.N (tgSlots tg)).map (·.2)) σ H Q := by
      intro σ H Q q
      rw [ho]
      unfold wX at q
      exact dc_read q
    exact ⟨(pe_dc (pos := pos) (gd.calm hz) gd.nd hi ok hg ht hk he hs).imp rd, fun i y py spos hy hl hw => (set_dc (gd.calm hz) gd.nd hy hl hw hi ok hg ht hk he hs).imp fun N σ H q => rd σ H _ q⟩
  · cases h
mutual
theorem sE : ∀ (e : E) (x : Expr) (c : Sc), mE c e x = true → Snd T k e x c
  | .loc i, x, c, h => by
    cases x with
    | Name y pos =>
      obtain ⟨h, h4⟩ := ands h
      obtain ⟨h, h3⟩ := ands h
      obtain ⟨h1, h2⟩ := ands h
      intro g X ex S0 H0 gd
      unfold wX
      exact s_val gd (s_loc gd (by simpa using h1) h2 (ne_dbg h3) (ne_dbg h4)) fun _ => rfl
    | _ => exact nomatch (show false = true from h)
  | .const d, x, c, h => by
    cases x with
    | Constant cs j pos =>
      intro g X ex S0 H0 gd
      unfold wX
      exact s_val gd (s_const h) fun _ => rfl
    | _ => exact nomatch (show false = true from h)
  | .glob y, x, c, h => by
    cases x with
    | Name z pos =>
      obtain ⟨h, h3⟩ := ands h
      obtain ⟨h1, h2⟩ := ands h
      rw [beq_iff_eq] at h1
      subst h1
      intro g X ex S0 H0 gd
      unfold wX
      exact s_val gd (s_glob gd h2 (ne_dbg h3)) fun _ => rfl
    | _ => exact nomatch (show false = true from h)
  | .bin op a b, x, c, h => by
    cases x with
    | BinOp a' op' b' pos =>
      obtain ⟨h, h3⟩ := ands h
      obtain ⟨h1, h2⟩ := ands h
      have e := opB_eq h1
      subst e
      intro g X ex S0 H0 gd
      unfold wX
      exact s_val gd (s_bin gd (sE a a' c h2 g X ex S0 H0 gd).1 (sE b b' c h3 g X ex S0 H0 gd).1) fun _ => rfl
    | _ => exact nomatch (show false = true from h)
  | .neg a, x, c, h => by
    cases x with
    | UnaryOp op a' pos =>
      obtain ⟨h1, h2⟩ := ands h
      cases op with
      | USub =>
        intro g X ex S0 H0 gd
        unfold wX
        exact s_val gd (s_neg (sE a a' c h2 g X ex S0 H0 gd).1) fun _ => rfl
      | _ => cases h1
    | _ => exact nomatch (show false = true from h)
  | .cmp op a b, x, c, h => by
    cases x with
    | Compare a' ops bs pos =>
      conv at h => lhs; whnf
      split at h
      · obtain ⟨h, h4⟩ := ands h
        obtain ⟨h, h3⟩ := ands h
        obtain ⟨h1, h2⟩ := ands h
        have e := cmB_eq h1
        subst e
        intro g X ex S0 H0 gd
        unfold wX
        have ha := (sE a a' c h2 g X ex S0 H0 gd).1
        have hb := (sE b _ c h3 g X ex S0 H0 gd).1
        exact ⟨s_cmp gd ha hb (no_mark h4), s_cmpT gd ha hb (no_mark h4)⟩
      · cases h
    | _ => exact nomatch (show false = true from h)
  | .oeq ne C a b, x, c, h => by
    cases x with
    | Compare a' ops bs pos =>
      obtain ⟨hz, h⟩ := ands h
      conv at h => lhs; whnf
      split at h
      · obtain ⟨h, h4⟩ := ands h
        obtain ⟨h, h3⟩ := ands h
        obtain ⟨h1, h2⟩ := ands h
        have e := cmB_eq h1
        subst e
        intro g X ex S0 H0 gd
        unfold wX
        have ha := (sE a a' c h2 g X ex S0 H0 gd).1
        have hb := (sE b _ c h3 g X ex S0 H0 gd).1
        exact ⟨s_oeq gd (hot_no hz) ha hb (no_mark h4), s_oeqT gd (hot_no hz) ha hb (no_mark h4)⟩
      · cases h
    | _ => exact nomatch (show false = true from h)
  | .cmp2 op1 op2 a b d, x, c, h => by
    cases x with
    | Compare a' ops bs pos =>
      conv at h => lhs; whnf
      split at h
      · obtain ⟨h, h6⟩ := ands h
        obtain ⟨h, h5⟩ := ands h
        obtain ⟨h, h4⟩ := ands h
        obtain ⟨h, h3⟩ := ands h
        obtain ⟨h1, h2⟩ := ands h
        have e := cmB_eq h1
        have e' := cmB_eq h2
        subst e e'
        intro g X ex S0 H0 gd
        unfold wX
        have ha := (sE a a' c h3 g X ex S0 H0 gd).1
        have hb := (sE b _ c h4 g X ex S0 H0 gd).1
        have hd := (sE d _ c h5 g X ex S0 H0 gd).1
        exact ⟨s_cmp2 gd ha hb hd (no_mark h6), s_cmp2T gd ha hb hd (no_mark h6)⟩
      · cases h
    | _ => exact nomatch (show false = true from h)
  | .bool op es, x, c, h => by
    cases x with
    | BoolOp op' es' pos =>
      obtain ⟨h, h3⟩ := ands h
      obtain ⟨h1, h2⟩ := ands h
      have e := boB_eq h1
      subst e
      have ne : es' ≠ [] := by rintro rfl; cases h3
      intro g X ex S0 H0 gd
      unfold wX
      have q := sB op es es' c h2 ne g X ex S0 H0 gd pos
      exact ⟨q.1, q.2.pt⟩
    | _ => exact nomatch (show false = true from h)
  | .not a, x, c, h => by
    cases x with
    | UnaryOp op a' pos =>
      obtain ⟨h1, h2⟩ := ands h
      cases op with
      | Not =>
        intro g X ex S0 H0 gd
        unfold wX
        have q := sE a a' c h2 g X ex S0 H0 gd
        exact ⟨s_not gd q.1, s_notT q.2⟩
      | _ => cases h1
    | _ => exact nomatch (show false = true from h)
  | .ite t a b, x, c, h => by
    cases x with
    | IfExp t' a' b' pos =>
      obtain ⟨h, h3⟩ := ands h
      obtain ⟨h1, h2⟩ := ands h
      intro g X ex S0 H0 gd
      unfold wX
      refine ⟨s_ite (sE t t' c h1 g X ex S0 H0 gd).2 (sE a a' c h2 g X ex S0 H0 gd).1 (sE b b' c h3 g X ex S0 H0 gd).1, ⟨fun pins s σ H Q I q => ?_⟩⟩
      obtain ⟨_, _, _, _, z, _⟩ := q
      exact z.elim
    | _ => exact nomatch (show false = true from h)
  | .call f es df, x, c, h => by
    cases x with
    | Call fx es' ks pos =>
      conv at h => lhs; whnf
      split at h
      · obtain ⟨h, hz⟩ := ands h
        obtain ⟨h, h4⟩ := ands h
        obtain ⟨h, h3⟩ := ands h
        obtain ⟨h1, h2⟩ := ands h
        rw [beq_iff_eq] at h1
        subst h1
        intro g X ex S0 H0 gd
        unfold wX
        obtain ⟨a1, a2⟩ := sEs es es' c h4
        exact s_val gd (s_call gd (fun _ => hot_no hz) (fun z => by rw [hot_no hz] at z; cases z) h2 (ne_dbg h3) (a2 g X ex S0 H0 gd).1 a1 (a2 g X ex S0 H0 gd).2) fun _ => rfl
      · cases h
    | _ => exact nomatch (show false = true from h)
  | .callk f es ks kes pl, x, c, h => by
    cases x with
    | Call fx es' kws pos =>
      have hA := ands h
      clear h
      obtain ⟨hz, h⟩ := hA
      split at h
      · obtain ⟨h, h6⟩ := ands h
        obtain ⟨h, h5⟩ := ands h
        obtain ⟨h, h4⟩ := ands h
        obtain ⟨h, h3⟩ := ands h
        obtain ⟨h1, h2⟩ := ands h
        rw [beq_iff_eq] at h1
        subst h1
        intro g X ex S0 H0 gd
        unfold wX
        obtain ⟨a1, a2⟩ := sEs es es' c h4
        obtain ⟨b1, b2⟩ := sKs kes ks kws c h5
        have len0 : es' = [] → esLen es = 0 := fun e => by
          subst e
          cases es with
          | nil => rfl
          | cons _ _ => unfold mEs at h4; cases h4
        exact s_val gd (s_callk gd (hot_no hz) h2 (ne_dbg h3) (a2 g X ex S0 H0 gd).1 a1 (fun e => ⟨len0 e, (a2 g X ex S0 H0 gd).2 e⟩) (b2 g X ex S0 H0 gd) b1) fun _ => rfl
      · cases h
    | _ => exact nomatch (show false = true from h)
  | .make fz f es df, x, c, h => by
    cases x with
    | Call fx es' ks pos =>
      conv at h => lhs; whnf
      split at h
      · obtain ⟨h, hz⟩ := ands h
        obtain ⟨h, h4⟩ := ands h
        obtain ⟨h, h3⟩ := ands h
        obtain ⟨h1, h2⟩ := ands h
        rw [beq_iff_eq] at h1
        subst h1
        intro g X ex S0 H0 gd
        unfold wX
        obtain ⟨a1, a2⟩ := sEs es es' c h4
        exact s_val gd (s_make gd (hot_no hz) h2 (ne_dbg h3) (a2 g X ex S0 H0 gd).1 a1 (a2 g X ex S0 H0 gd).2) fun _ => rfl
      · cases h
    | _ => exact nomatch (show false = true from h)
  | .bi fz b es, x, c, h => by
    cases x with
    | Call fx es' ks pos =>
      conv at h => lhs; whnf
      split at h
      · obtain ⟨h, hz⟩ := ands h
        obtain ⟨h, h4⟩ := ands h
        obtain ⟨h, h3⟩ := ands h
        obtain ⟨h1, h2⟩ := ands h
        rw [beq_iff_eq] at h1
        subst h1
        intro g X ex S0 H0 gd
        unfold wX
        obtain ⟨a1, a2⟩ := sEs es es' c h3
        cases es' with
        | nil => cases h4
        | cons e' es' => exact s_val gd (s_bi gd (fun z => by rw [z, Bool.or_false] at hz; exact hot_no hz) h2 (a2 g X ex S0 H0 gd).1 a1) fun _ => rfl
      · cases h
    | _ => exact nomatch (show false = true from h)
  | .isi a t, x, c, h => by
    cases x with
    | Call fx es' ks pos =>
      conv at h => lhs; whnf
      split at h
      · obtain ⟨h, h7⟩ := ands h
        obtain ⟨h, h6⟩ := ands h
        obtain ⟨h, h5⟩ := ands h
        obtain ⟨h, h4⟩ := ands h
        obtain ⟨h, h3⟩ := ands h
        obtain ⟨h1, h2⟩ := ands h
        rw [beq_iff_eq] at h1
        subst h1
        intro g X ex S0 H0 gd
        unfold wX
        exact s_val gd (s_isi gd h2 h3 (ne_dbg h5) h6 h4 (sE a _ c h7 g X ex S0 H0 gd).1) fun _ => rfl
      · cases h
    | _ => exact nomatch (show false = true from h)
  | .meth m o es, x, c, h => by
    cases x with
    | Call fx es' ks pos =>
      conv at h => lhs; whnf
      split at h
      · obtain ⟨h, h7⟩ := ands h
        obtain ⟨h, h6⟩ := ands h
        obtain ⟨h, h5⟩ := ands h
        obtain ⟨h, h4⟩ := ands h
        obtain ⟨h, h3⟩ := ands h
        obtain ⟨h1, h2⟩ := ands h
        rw [beq_iff_eq] at h1
        subst h1
        intro g X ex S0 H0 gd
        unfold wX
        obtain ⟨a1, a2⟩ := sEs es es' c h4
        cases es' with
        | nil => cases h5
        | cons e' es' => exact s_val gd (s_meth gd (sE o _ c h2 g X ex S0 H0 gd).1 (a2 g X ex S0 H0 gd).1 a1 h3 (of_decide_eq_true h6) h7) fun _ => rfl
      · cases h
    | _ => exact nomatch (show false = true from h)
  | .own o C m es, x, c, h => by
    cases x with
    | Call fx es' ks pos =>
      conv at h => lhs; whnf
      split at h
      · obtain ⟨h, hz⟩ := ands h
        obtain ⟨h, h6⟩ := ands h
        obtain ⟨h, h5⟩ := ands h
        obtain ⟨h, h4⟩ := ands h
        obtain ⟨h, h3⟩ := ands h
        obtain ⟨h1, h2⟩ := ands h
        rw [beq_iff_eq] at h1
        subst h1
        intro g X ex S0 H0 gd
        unfold wX
        obtain ⟨a1, a2⟩ := sEs es es' c h4
        exact s_val gd (s_own gd (hot_no hz) (sE o _ c h2 g X ex S0 H0 gd).1 (a2 g X ex S0 H0 gd).1 a1 h3 (of_decide_eq_true h5) h6 (a2 g X ex S0 H0 gd).2) fun _ => rfl
      · cases h
    | _ => exact nomatch (show false = true from h)
  | .attr o f, x, c, h => by
    cases x with
    | Attribute o' y pos =>
      obtain ⟨h, h3⟩ := ands h
      obtain ⟨h1, h2⟩ := ands h
      rw [beq_iff_eq] at h1
      subst h1
      intro g X ex S0 H0 gd
      unfold wX
      exact s_val gd (s_attr gd (sE o o' c h2 g X ex S0 H0 gd).1 h3) fun _ => rfl
    | _ => exact nomatch (show false = true from h)
  | .sub o i, x, c, h => by
    cases x with
    | Subscript o' i' pos =>
      obtain ⟨h, h3⟩ := ands h
      obtain ⟨h1, h2⟩ := ands h
      intro g X ex S0 H0 gd
      unfold wX
      exact s_val gd (s_sub gd (sE o o' c h1 g X ex S0 H0 gd).1 (sE i i' c h2 g X ex S0 H0 gd).1 h3) fun _ => rfl
    | _ => exact nomatch (show false = true from h)
  | .sl o lo hi, x, c, h => by
    cases x with
    | Subscript o' i' pos =>
      conv at h => lhs; whnf
      split at h
      · obtain ⟨h, h3⟩ := ands h
        obtain ⟨h1, h2⟩ := ands h
        intro g X ex S0 H0 gd
        unfold wX
        exact s_val gd (s_sl gd (sE o o' c h1 g X ex S0 H0 gd).1 (sO lo _ c h2 g X ex S0 H0 gd) (sO hi _ c h3 g X ex S0 H0 gd)) fun _ => rfl
      · cases h
    | _ => exact nomatch (show false = true from h)
  | .tup es, x, c, h => by
    cases x with
    | Tuple es' n pos =>
      intro g X ex S0 H0 gd
      unfold wX
      exact s_val gd (s_tup ((sEs es es' c h).2 g X ex S0 H0 gd).1) fun _ => rfl
    | _ => exact nomatch (show false = true from h)
  | .lst fz es, x, c, h => by
    cases x with
    | List es' pos =>
      intro g X ex S0 H0 gd
      unfold wX
      exact s_val gd (s_lst ((sEs es es' c h).2 g X ex S0 H0 gd).1) fun _ => rfl
    | _ => exact nomatch (show false = true from h)
  | .lc fz elt tg it ifs, x, c, h => by
    cases x with
    | ListComp elt' gs scope pos =>
      intro g X ex S0 H0 gd
      obtain ⟨tg', it', ifs', wi, gt, tt, te, own, rfl, hi, ok, hg, ht, he, hs, rd⟩ := lc_parts h (fun x c h => sE elt x c h) (fun x tg c h => sI it x tg c h) (fun x tg c h => sIB it x tg c h) (fun x c h => sQ ifs x c h) g X ex S0 H0 gd
      unfold wX at rd ⊢
      cases hz : c.hot with
      | false => exact s_val gd ((pe_lc (pos := pos) (gd.calm hz) gd.nd (hi.1 hz) ok hg ht he hs).imp fun σ H Q q => rd.1 σ H Q q) fun _ => rfl
      | true => exact s_val gd ((pe_lcB (pos := pos) gd.nd (hi.2 hz) ok hg ht he hs).imp fun σ H Q q => rd.2 hz σ H Q q) fun _ => rfl
    | _ => exact nomatch (show false = true from h)
  | .bad, x, c, h => by
    intro g X ex S0 H0 gd
    unfold wX
    exact ⟨⟨fun pins s σ H Q I ⟨_, _, _, _, z, _⟩ => z.elim⟩, ⟨fun pins s σ H Q I ⟨_, _, _, _, z, _⟩ => z.elim⟩⟩
  | .sset fz a, x, c, h => by
    cases x with
    | Call fx es' ks pos =>
      have hA := ands h
      clear h
      obtain ⟨hz, h⟩ := hA
      split at h
      · obtain ⟨h, h6⟩ := ands h
        obtain ⟨h, h5⟩ := ands h
        obtain ⟨h, h4⟩ := ands h
        obtain ⟨h, h3⟩ := ands h
        obtain ⟨h1, h2⟩ := ands h
        rw [beq_iff_eq] at h1 h2
        subst h1 h2
        intro g X ex S0 H0 gd
        unfold wX
        exact s_val gd (s_sset gd (hot_no hz) h3 h4 h5 (sE a _ c h6 g X ex S0 H0 gd).1) fun _ => rfl
      · cases h
    | _ => exact nomatch (show false = true from h)
  | .rpr a, x, c, h => by
    cases x with
    | Call fx es' ks pos =>
      have h := (show (match (generalizing := false) fx, ks, es' with
        | .Name x _, [], [a'] => x == ("repr" : Str) && glB (c.kd x) && noStar a' && mE c a a'
        | _, _, _ => false) = true from h)
      split at h
      · obtain ⟨h, h4⟩ := ands h
        obtain ⟨h, h3⟩ := ands h
        obtain ⟨h1, h2⟩ := ands h
        rw [beq_iff_eq] at h1
        subst h1
        intro g X ex S0 H0 gd
        unfold wX
        exact s_val gd (s_rpr gd h2 h3 (sE a _ c h4 g X ex S0 H0 gd).1) fun _ => rfl
      · cases h
    | _ => exact nomatch (show false = true from h)
  | .repl fz es b, x, c, h => by
    cases x with
    | BinOp a' op b' pos =>
      conv at h => lhs; whnf
      split at h
      · obtain ⟨h1, h2⟩ := ands h
        intro g X ex S0 H0 gd
        unfold wX
        obtain ⟨a1, a2⟩ := sEs es _ c h1
        exact s_val gd (s_repl gd (a2 g X ex S0 H0 gd).1 (sE b b' c h2 g X ex S0 H0 gd).1) fun _ => rfl
      · cases h
    | _ => exact nomatch (show false = true from h)
  | .dct fz ps, x, c, h => by
    cases x with
    | Dict ks' vs' pos =>
      obtain ⟨h1, h2⟩ := ands h
      intro g X ex S0 H0 gd
      unfold wX
      obtain ⟨a1, a2, a3⟩ := sPs ps ks' vs' c h1
      exact s_val gd (s_dct gd (a3 g X ex S0 H0 gd pos).1 a1 a2 (of_decide_eq_true h2) (a3 g X ex S0 H0 gd pos).2) fun _ => rfl
    | _ => exact nomatch (show false = true from h)
  | .dc fz kx vx tg it ifs, x, c, h => by
    cases x with
    | DictComp kx' vx' gs scope pos =>
      intro g X ex S0 H0 gd
      have q := (dc_sound h (fun x c h => sE kx x c h) (fun x c h => sE vx x c h) (fun x tg c h => sI it x tg c h) (fun x c h => sQ ifs x c h) g X ex S0 H0 gd).1
      unfold wX at q ⊢
      exact s_val gd q fun _ => rfl
    | _ => exact nomatch (show false = true from h)
  | .rngT es, x, c, h => by
    cases x with
    | Call fx es' ks pos =>
      have hA := ands h
      clear h
      obtain ⟨hz, h⟩ := hA
      split at h
      · obtain ⟨h, h6⟩ := ands h
        obtain ⟨h, h5⟩ := ands h
        obtain ⟨h, h4⟩ := ands h
        obtain ⟨h, h3⟩ := ands h
        obtain ⟨h1, h2⟩ := ands h
        rw [beq_iff_eq] at h1 h2
        subst h1 h2
        intro g X ex S0 H0 gd
        unfold wX
        obtain ⟨a1, a2⟩ := sEs es _ c h5
        exact s_val gd (s_rngT gd (hot_no hz) h3 h4 (a2 g X ex S0 H0 gd).1 a1 (fun z => by rw [z] at h6; cases h6)) fun _ => rfl
      · cases h
    | _ => exact nomatch (show false = true from h)
  | .hcall f es, x, c, h => by
    cases x with
    | Call fx es' ks pos =>
      conv at h => lhs; whnf
      split at h
      · obtain ⟨h, hdp⟩ := ands h
        obtain ⟨h, h4⟩ := ands h
        obtain ⟨h, h3⟩ := ands h
        obtain ⟨h1, h2⟩ := ands h
        rw [beq_iff_eq] at h1
        subst h1
        intro g X ex S0 H0 gd
        unfold wX
        obtain ⟨a1, a2⟩ := sEs es es' c h4
        refine s_val gd ⟨fun pins s σ H Q I q => ?_⟩ fun _ => rfl
        obtain ⟨ρ, S, Qd, r, ⟨hq, q⟩, kk⟩ := q
        refine (s_call (df := []) gd (fun z => by rw [hq] at z; cases z) (fun _ => hot_no hdp) h2 (ne_dbg h3) (a2 g X ex S0 H0 gd).1 a1 (a2 g X ex S0 H0 gd).2).run pins s σ H Q I ⟨ρ, S, Qd, r, ?_, kk⟩
        simpa only [List.append_nil] using q
      · cases h
    | _ => exact nomatch (show false = true from h)
  | .isx a C, x, c, h => by
    cases x with
    | Call fx es' ks pos =>
      conv at h => lhs; whnf
      split at h
      · obtain ⟨h, h7⟩ := ands h
        obtain ⟨h, h6⟩ := ands h
        obtain ⟨h, h5⟩ := ands h
        obtain ⟨h, h4⟩ := ands h
        obtain ⟨h, h3⟩ := ands h
        obtain ⟨h1, h2⟩ := ands h
        rw [beq_iff_eq] at h1 h4
        subst h1 h4
        intro g X ex S0 H0 gd
        unfold wX
        exact s_val gd (s_isx gd h2 h3 (ne_dbg h5) h6 (sE a _ c h7 g X ex S0 H0 gd).1) fun _ => rfl
      · cases h
    | _ => exact nomatch (show false = true from h)
  | .isxs a Cs, x, c, h => by
    cases x with
    | Call fx es' ks pos =>
      conv at h => lhs; whnf
      split at h
      · obtain ⟨h, h7⟩ := ands h
        obtain ⟨h, h6⟩ := ands h
        obtain ⟨h, h5⟩ := ands h
        obtain ⟨h, h4⟩ := ands h
        obtain ⟨h1, h2⟩ := ands h
        rw [beq_iff_eq] at h1
        subst h1
        intro g X ex S0 H0 gd
        unfold wX
        exact s_val gd (s_isxs gd (fun z => by rw [z] at h7; cases h7) h2 h4 h5 (sE a _ c h6 g X ex S0 H0 gd).1) fun _ => rfl
      · cases h
    | _ => exact nomatch (show false = true from h)
  | .xattr o f, x, c, h => by
    cases x with
    | Attribute o' y pos =>
      obtain ⟨h, h3⟩ := ands h
      obtain ⟨h1, h2⟩ := ands h
      rw [beq_iff_eq] at h1
      subst h1
      intro g X ex S0 H0 gd
      unfold wX
      exact s_val gd (s_xattr gd (sE o o' c h2 g X ex S0 H0 gd).1 h3) fun _ => rfl
    | _ => exact nomatch (show false = true from h)
  | .cat fz a b, x, c, h => by
    cases x with
    | BinOp a' op b' pos =>
      obtain ⟨h, h3⟩ := ands h
      obtain ⟨h1, h2⟩ := ands h
      cases op with
      | Add =>
        intro g X ex S0 H0 gd
        unfold wX
        exact s_val gd (s_cat (sE a a' c h2 g X ex S0 H0 gd).1 (sE b b' c h3 g X ex S0 H0 gd).1) fun _ => rfl
      | _ => cases h1
    | _ => exact nomatch (show false = true from h)
  | .rngL fz es, x, c, h => by
    cases x with
    | Call fx es' ks pos =>
      have hA := ands h
      clear h
      obtain ⟨hz, h⟩ := hA
      split at h
      · obtain ⟨h, h6⟩ := ands h
        obtain ⟨h, h5⟩ := ands h
        obtain ⟨h, h4⟩ := ands h
        obtain ⟨h, h3⟩ := ands h
        obtain ⟨h1, h2⟩ := ands h
        rw [beq_iff_eq] at h1 h2
        subst h1 h2
        intro g X ex S0 H0 gd
        unfold wX
        obtain ⟨a1, a2⟩ := sEs es _ c h5
        exact s_val gd (s_rngL gd (hot_no hz) h3 h4 (a2 g X ex S0 H0 gd).1 a1 (fun z => by rw [z] at h6; cases h6)) fun _ => rfl
      · cases h
    | _ => exact nomatch (show false = true from h)
theorem sFs : ∀ (es : Es) (xs : List Expr) (c : Sc), mFs c es xs = true → ∀ g X ex S0 H0, Good T k g X c ex S0 H0 → FsJ T X g S0 H0 ex es xs
  | .nil, xs, c, h => by
    cases xs with
    | cons _ _ => unfold mFs at h; cases h
    | nil => exact fun g X ex S0 H0 gd => fs_nil
  | .cons e r, xs, c, h => by
    cases xs with
    | nil => unfold mFs at h; cases h
    | cons x xs =>
      unfold mFs at h
      obtain ⟨h1, h2⟩ := ands h
      intro g X ex S0 H0 gd
      have ih := sFs r xs c h2 g X ex S0 H0 gd
      split at h1
      · obtain ⟨h1, h5⟩ := ands h1
        obtain ⟨h3, h4⟩ := ands h1
        have e3 := of_decide_eq_true h3
        subst e3
        have e4 := Option.isNone_iff_eq_none.mp h4
        subst e4
        exact fs_fmt (sE e _ c h5 g X ex S0 H0 gd).1 ih
      · obtain ⟨h3, h4⟩ := ands h1
        split at h3
        · exact fs_con (sE _ _ c h4 g X ex S0 H0 gd).1 ih
        · cases h3
theorem sPs : ∀ (ps : Ep) (ks : List (Option Expr)) (vs : List Expr) (c : Sc), mPs c ps ks vs = true → ks.all (·.isSome) = true ∧ ks.length = vs.length ∧
    ∀ g X ex S0 H0, Good T k g X c ex S0 H0 → ∀ pos, PPr X pos ks vs (RPs g S0 H0 (wPs T ps ex)) ∧ (ks = [] → wPs T ps ex = fun _ S Q => Q [] S)
  | .nil, ks, vs, c, h => by
    cases ks with
    | cons _ _ => unfold mPs at h; cases h
    | nil =>
      cases vs with
      | cons _ _ => unfold mPs at h; cases h
      | nil =>
        refine ⟨rfl, rfl, fun g X ex S0 H0 gd pos => ⟨?_, fun _ => by funext ρ S Q; unfold wPs; rfl⟩⟩
        obtain ⟨trs, h1, h2⟩ := s_pnil (X := X) (g := g) (S0 := S0) (H0 := H0) (pos := pos)
        exact ⟨trs, h1, fun σ H Q ⟨ρ, S, Qd, r, hh, kk⟩ => h2 σ H Q ⟨ρ, S, Qd, r, (by unfold wPs at hh; exact hh), kk⟩⟩
  | .cons k0 v0 r0, ks, vs, c, h => by
    cases ks with
    | nil => unfold mPs at h; cases h
    | cons k' ks =>
      cases k' with
      | none => unfold mPs at h; cases h
      | some k' =>
        cases vs with
        | nil => unfold mPs at h; cases h
        | cons v' vs =>
          unfold mPs at h
          obtain ⟨h, h3⟩ := ands h
          obtain ⟨h1, h2⟩ := ands h
          obtain ⟨a1, a2, a3⟩ := sPs r0 ks vs c h3
          refine ⟨by rw [List.all_cons, a1]; rfl, by rw [List.length_cons, List.length_cons, a2], fun g X ex S0 H0 gd pos => ⟨?_, fun z => by cases z⟩⟩
          obtain ⟨trs, q1, q2⟩ := s_pcons (sE k0 k' c h1 g X ex S0 H0 gd).1 (sE v0 v' c h2 g X ex S0 H0 gd).1 (a3 g X ex S0 H0 gd pos).1
          exact ⟨trs, q1, fun σ H Q ⟨ρ, S, Qd, r, hh, kk⟩ => q2 σ H Q ⟨ρ, S, Qd, r, (by unfold wPs at hh; exact hh), kk⟩⟩
theorem sKs : ∀ (es : Es) (ks : List Str) (kws : List Keyword) (c : Sc), mKs c es ks kws = true → kwIs ks kws ∧ ∀ g X ex S0 H0, Good T k g X c ex S0 H0 → PK X kws (RA g S0 H0 (wEs T es ex))
  | .nil, ks, kws, c, h => by
    cases ks with
    | cons _ _ => unfold mKs at h; cases h
    | nil =>
      cases kws with
      | cons _ _ => unfold mKs at h; cases h
      | nil => exact ⟨trivial, fun g X ex S0 H0 gd => ⟨fun p pins s σ H Q I ⟨ρ, S, Qd, r, hh, kk⟩ => s_kw0.run p pins s σ H Q I ⟨ρ, S, Qd, r, (by unfold wEs at hh; exact hh), kk⟩⟩⟩
  | .cons e r, ks, kws, c, h => by
    cases ks with
    | nil => unfold mKs at h; cases h
    | cons k0 ks =>
      cases kws with
      | nil => unfold mKs at h; cases h
      | cons kw kws =>
        obtain ⟨nm, x, kp⟩ := kw
        unfold mKs at h
        obtain ⟨h, h3⟩ := ands h
        obtain ⟨h1, h2⟩ := ands h
        obtain ⟨a1, a2⟩ := sKs r ks kws c h3
        refine ⟨⟨by simpa using h1, a1⟩, fun g X ex S0 H0 gd => ⟨fun p pins s σ H Q I ⟨ρ, S, Qd, r', hh, kk⟩ => (s_kw (sE e x c h2 g X ex S0 H0 gd).1 (a2 g X ex S0 H0 gd)).run p pins s σ H Q I ⟨ρ, S, Qd, r', ?_, kk⟩⟩⟩
        unfold wEs at hh
        exact hh
theorem sB : ∀ (op : BoolOp) (es : Es) (xs : List Expr) (c : Sc), mEs c es xs = true → SndB T k op es xs c
  | op, .nil, xs, c, h => by
    cases xs with
    | nil => exact fun ne => absurd rfl ne
    | cons x xs => unfold mEs at h; cases h
  | op, .cons a r, xs, c, h => by
    cases xs with
    | nil => unfold mEs at h; cases h
    | cons x xs =>
      unfold mEs at h
      obtain ⟨h, h3⟩ := ands h
      obtain ⟨h1, h2⟩ := ands h
      intro _ g X ex S0 H0 gd pos
      have qa := sE a x c h2 g X ex S0 H0 gd
      have qr := sB op r xs c h3
      unfold wB
      cases xs with
      | nil =>
        cases r with
        | cons _ _ => unfold mEs at h3; cases h3
        | nil =>
          refine ⟨(pe_one qa.1).imp fun σ H Q q => q, ?_⟩
          cases op with
          | And =>
            refine (pw_and1 qa.2).imp fun σ H Q q => ?_
            obtain ⟨ρ, S, Qd, r', h, kk⟩ := q
            refine ⟨ρ, S, _, r', h, fun b S1 H1 rs1 st1 q1 => ?_⟩
            cases b <;> exact kk _ S1 H1 rs1 st1 q1
          | Or =>
            refine (pw_or1 qa.2).imp fun σ H Q q => ?_
            obtain ⟨ρ, S, Qd, r', h, kk⟩ := q
            refine ⟨ρ, S, _, r', h, fun b S1 H1 rs1 st1 q1 => ?_⟩
            cases b <;> exact kk _ S1 H1 rs1 st1 q1
      | cons y ys =>
        cases r with
        | nil => unfold mEs at h3; cases h3
        | cons b r =>
          have qr := qr (by simp) g X ex S0 H0 gd pos
          cases op with
          | And =>
            refine ⟨(pe_andT qa.1 qr.1).imp fun σ H Q q => ?_, (pw_and qa.2 qr.2).imp fun σ H Q q => ?_⟩
            · obtain ⟨ρ, S, Qd, r', h, kk⟩ := q
              refine ⟨ρ, S, _, r', h, fun v d S1 H1 rd1 rs1 st1 ⟨bb, hb, q1⟩ => ⟨bb, gd.gK ▸ tru_V rs1 rd1 hb, ?_⟩⟩
              cases bb with
              | true => exact ⟨ρ, S1, Qd, r'.step rs1 st1, q1, kk.from st1⟩
              | false => exact (kk.from st1).here rs1 rd1 q1
            · obtain ⟨ρ, S, Qd, r', h, kk⟩ := q
              refine ⟨ρ, S, _, r', h, fun bb S1 H1 rs1 st1 q1 => ?_⟩
              cases bb with
              | true => exact ⟨ρ, S1, Qd, r'.step rs1 st1, q1, kk.from st1⟩
              | false => exact kk _ S1 H1 rs1 st1 q1
          | Or =>
            refine ⟨(pe_orT qa.1 qr.1).imp fun σ H Q q => ?_, (pw_or qa.2 qr.2).imp fun σ H Q q => ?_⟩
            · obtain ⟨ρ, S, Qd, r', h, kk⟩ := q
              refine ⟨ρ, S, _, r', h, fun v d S1 H1 rd1 rs1 st1 ⟨bb, hb, q1⟩ => ⟨bb, gd.gK ▸ tru_V rs1 rd1 hb, ?_⟩⟩
              cases bb with
              | false => exact ⟨ρ, S1, Qd, r'.step rs1 st1, q1, kk.from st1⟩
              | true => exact (kk.from st1).here rs1 rd1 q1
            · obtain ⟨ρ, S, Qd, r', h, kk⟩ := q
              refine ⟨ρ, S, _, r', h, fun bb S1 H1 rs1 st1 q1 => ?_⟩
              cases bb with
              | false => exact ⟨ρ, S1, Qd, r'.step rs1 st1, q1, kk.from st1⟩
              | true => exact kk _ S1 H1 rs1 st1 q1
theorem sEs : ∀ (es : Es) (xs : List Expr) (c : Sc), mEs c es xs = true → SndS T k es xs c
  | .nil, xs, c, h => by
    cases xs with
    | nil => exact ⟨rfl, fun g X ex S0 H0 gd => ⟨s_nil.imp fun σ H Q ⟨ρ, S, Qd, r, hh, kk⟩ => ⟨ρ, S, Qd, r, (by unfold wEs at hh; exact hh), kk⟩, fun _ => by funext ρ S Q; unfold wEs; rfl⟩⟩
    | cons x xs => unfold mEs at h; cases h
  | .cons e r, xs, c, h => by
    cases xs with
    | nil => unfold mEs at h; cases h
    | cons x xs =>
      unfold mEs at h
      obtain ⟨h, h3⟩ := ands h
      obtain ⟨h1, h2⟩ := ands h
      obtain ⟨a1, a2⟩ := sEs r xs c h3
      refine ⟨by rw [List.all_cons, h1, a1]; rfl, fun g X ex S0 H0 gd => ⟨?_, fun z => by cases z⟩⟩
      have q := s_cons (sE e x c h2 g X ex S0 H0 gd).1 (a2 g X ex S0 H0 gd).1 h1
      exact q.imp fun σ H Q z => by
        obtain ⟨ρ, S, Qd, r', hh, kk⟩ := z
        unfold wEs at hh
        exact ⟨ρ, S, Qd, r', hh, kk⟩
theorem sQ : ∀ (e : Eo) (x : Expr) (c : Sc), mQ c e x = true → SndQ T k e x c
  | .no, x, c, h => by unfold mQ at h; cases h
  | .yes e, x, c, h => by
    unfold mQ at h
    intro g X ex S0 H0 gd
    exact (sE e x c h g X ex S0 H0 gd).2.imp fun σ H Q ⟨ρ, S, Qd, r, hh, kk⟩ => ⟨ρ, S, Qd, r, (by unfold wTo at hh; exact hh), kk⟩
theorem sO : ∀ (e : Eo) (x : Option Expr) (c : Sc), mO c e x = true → SndO T k e x c
  | .no, x, c, h => by
    cases x with
    | none => intro g X ex S0 H0 gd; exact s_nopart.imp fun σ H Q ⟨ρ, S, Qd, r, hh, kk⟩ => ⟨ρ, S, Qd, r, by unfold wO at hh; exact hh, kk⟩
    | some x => unfold mO at h; cases h
  | .yes e, x, c, h => by
    cases x with
    | none => unfold mO at h; cases h
    | some x =>
      unfold mO at h
      intro g X ex S0 H0 gd
      exact (s_part (sE e x c h g X ex S0 H0 gd).1).imp fun σ H Q ⟨ρ, S, Qd, r, hh, kk⟩ => ⟨ρ, S, Qd, r, by unfold wO at hh; exact hh, kk⟩
theorem sIB : ∀ (it : It) (x tg : Expr) (c : Sc), mI c it x tg = true → SndIB T k it x tg c
  | .range (.cons a .nil), x, tg, c, h => by
    unfold mI at h
    split at h
    · rename_i yy p1 es' p2
      obtain ⟨h, h5⟩ := ands h
      obtain ⟨h, h4⟩ := ands h
      obtain ⟨h, h3⟩ := ands h
      obtain ⟨h1, h2⟩ := ands h
      rw [beq_iff_eq] at h1
      subst h1
      cases es' with
      | nil => cases h4
      | cons x1 es' =>
        cases es' with
        | cons _ _ => unfold mEs at h3; obtain ⟨_, h3⟩ := ands h3; unfold mEs at h3; cases h3
        | nil =>
          unfold mEs at h3
          obtain ⟨h3, _⟩ := ands h3
          obtain ⟨h6, h7⟩ := ands h3
          intro _ g X ex S0 H0 gd
          exact ⟨fun pins s σ H R I ⟨ρ, S, Qi, r, hh, kk⟩ => (s_rangeB gd (sE a _ c h7 g X ex S0 H0 gd).1 h2 h6).run pins s σ H R I ⟨ρ, S, Qi, r, by unfold wI wEs wEs at hh; exact hh, kk⟩⟩
    · cases h
  | .range .nil, _, _, _, _ => fun z => nomatch z
  | .range (.cons _ (.cons _ _)), _, _, _, _ => fun z => nomatch z
  | .seq e, x, tg, c, h => by
    unfold mI at h
    intro _ g X ex S0 H0 gd
    exact ⟨fun pins s σ H R I ⟨ρ, S, Qi, r, hh, kk⟩ => (s_seqB gd (sE e x c h g X ex S0 H0 gd).1).run pins s σ H R I ⟨ρ, S, Qi, r, by unfold wI at hh; exact hh, kk⟩⟩
  | .enum _, _, _, _, _ => fun z => nomatch z
  | .zip _ _, _, _, _, _ => fun z => nomatch z
theorem sI : ∀ (it : It) (x tg : Expr) (c : Sc), mI c it x tg = true → SndI T k it x tg c
  | .seq e, x, tg, c, h => by
    unfold mI at h
    intro g X ex S0 H0 gd
    exact (s_seq gd (sE e x c h g X ex S0 H0 gd).1).imp fun σ H R ⟨ρ, S, Qi, r, hh, kk⟩ => ⟨ρ, S, Qi, r, by unfold wI at hh; exact hh, kk⟩
  | .range .nil, x, tg, c, h => by
    unfold mI at h
    split at h
    · rename_i yy p1 es' p2
      obtain ⟨h, h5⟩ := ands h
      obtain ⟨h, h4⟩ := ands h
      obtain ⟨h, h3⟩ := ands h
      cases es' with
      | nil => cases h4
      | cons _ _ => unfold mEs at h3; cases h3
    · cases h
  | .range (.cons a .nil), x, tg, c, h => by
    unfold mI at h
    split at h
    · rename_i yy p1 es' p2
      obtain ⟨h, h5⟩ := ands h
      obtain ⟨h, h4⟩ := ands h
      obtain ⟨h, h3⟩ := ands h
      obtain ⟨h1, h2⟩ := ands h
      rw [beq_iff_eq] at h1
      subst h1
      cases es' with
      | nil => cases h4
      | cons x1 es' =>
        cases es' with
        | cons _ _ => unfold mEs at h3; obtain ⟨_, h3⟩ := ands h3; unfold mEs at h3; cases h3
        | nil =>
          unfold mEs at h3
          obtain ⟨h3, _⟩ := ands h3
          obtain ⟨h6, h7⟩ := ands h3
          intro g X ex S0 H0 gd
          exact (s_range1 gd (sE a _ c h7 g X ex S0 H0 gd).1 h2 h6).imp fun σ H R ⟨ρ, S, Qi, r, hh, kk⟩ => ⟨ρ, S, Qi, r, by unfold wI wEs wEs at hh; exact hh, kk⟩
    · cases h
  | .range (.cons a (.cons b .nil)), x, tg, c, h => by
    unfold mI at h
    split at h
    · rename_i yy p1 es' p2
      obtain ⟨h, h5⟩ := ands h
      obtain ⟨h, h4⟩ := ands h
      obtain ⟨h, h3⟩ := ands h
      obtain ⟨h1, h2⟩ := ands h
      rw [beq_iff_eq] at h1
      subst h1
      cases es' with
      | nil => cases h4
      | cons x1 es' =>
        cases es' with
        | nil => unfold mEs at h3; obtain ⟨_, h3⟩ := ands h3; unfold mEs at h3; cases h3
        | cons x2 es' =>
          cases es' with
          | cons _ _ => unfold mEs at h3; obtain ⟨_, h3⟩ := ands h3; unfold mEs at h3; obtain ⟨_, h3⟩ := ands h3; unfold mEs at h3; cases h3
          | nil =>
            unfold mEs at h3
            obtain ⟨h3, h8⟩ := ands h3
            obtain ⟨h6, h7⟩ := ands h3
            unfold mEs at h8
            obtain ⟨h8, _⟩ := ands h8
            obtain ⟨h9, h10⟩ := ands h8
            intro g X ex S0 H0 gd
            exact (s_range2 gd (sE a _ c h7 g X ex S0 H0 gd).1 (sE b _ c h10 g X ex S0 H0 gd).1 h2 h6 h9).imp fun σ H R ⟨ρ, S, Qi, r, hh, kk⟩ => ⟨ρ, S, Qi, r, by unfold wI wEs wEs wEs at hh; exact hh, kk⟩
    · cases h
  | .range (.cons a (.cons b (.cons d .nil))), x, tg, c, h => by
    unfold mI at h
    split at h
    · rename_i yy p1 es' p2
      obtain ⟨h, h5⟩ := ands h
      obtain ⟨h, h4⟩ := ands h
      obtain ⟨h, h3⟩ := ands h
      obtain ⟨h1, h2⟩ := ands h
      rw [beq_iff_eq] at h1
      subst h1
      cases es' with
      | nil => cases h4
      | cons x1 es' =>
        unfold mEs at h3
        obtain ⟨h3, h8⟩ := ands h3
        obtain ⟨h6, h7⟩ := ands h3
        cases es' with
        | nil => unfold mEs at h8; cases h8
        | cons x2 es' =>
          unfold mEs at h8
          obtain ⟨h8, h11⟩ := ands h8
          obtain ⟨h9, h10⟩ := ands h8
          cases es' with
          | nil => unfold mEs at h11; cases h11
          | cons x3 es' =>
            unfold mEs at h11
            obtain ⟨h11, h14⟩ := ands h11
            obtain ⟨h12, h13⟩ := ands h11
            cases es' with
            | cons _ _ => unfold mEs at h14; cases h14
            | nil =>
              intro g X ex S0 H0 gd
              exact (s_range3 gd (sE a _ c h7 g X ex S0 H0 gd).1 (sE b _ c h10 g X ex S0 H0 gd).1 (sE d _ c h13 g X ex S0 H0 gd).1 h2 h6 h9 h12).imp fun σ H R ⟨ρ, S, Qi, r, hh, kk⟩ => ⟨ρ, S, Qi, r, by unfold wI wEs wEs wEs wEs at hh; exact hh, kk⟩
    · cases h
  | .range (.cons a (.cons b (.cons d (.cons f r)))), x, tg, c, h => by
    unfold mI at h
    split at h
    · rename_i yy p1 es' p2
      obtain ⟨h, h5⟩ := ands h
      obtain ⟨h, h4⟩ := ands h
      obtain ⟨h, h3⟩ := ands h
      exfalso
      have hl := of_decide_eq_true h5
      match es', h3, hl with
      | [], h3, _ => unfold mEs at h3; cases h3
      | [_], h3, _ => unfold mEs at h3; obtain ⟨_, h3⟩ := ands h3; unfold mEs at h3; cases h3
      | [_, _], h3, _ => unfold mEs at h3; obtain ⟨_, h3⟩ := ands h3; unfold mEs at h3; obtain ⟨_, h3⟩ := ands h3; unfold mEs at h3; cases h3
      | [_, _, _], h3, _ => unfold mEs at h3; obtain ⟨_, h3⟩ := ands h3; unfold mEs at h3; obtain ⟨_, h3⟩ := ands h3; unfold mEs at h3; obtain ⟨_, h3⟩ := ands h3; unfold mEs at h3; cases h3
      | _ :: _ :: _ :: _ :: _, _, hl => simp only [List.length_cons] at hl; omega
    · cases h
  | .enum e, x, tg, c, h => by
    unfold mI at h
    split at h
    · obtain ⟨h, h4⟩ := ands h
      obtain ⟨h, h3⟩ := ands h
      obtain ⟨h1, h2⟩ := ands h
      rw [beq_iff_eq] at h1
      subst h1
      intro g X ex S0 H0 gd
      exact (s_enum gd (sE e _ c h4 g X ex S0 H0 gd).1 h2 h3).imp fun σ H R ⟨ρ, S, Qi, r, hh, kk⟩ => ⟨ρ, S, Qi, r, by unfold wI at hh; exact hh, kk⟩
    · cases h
  | .zip p q, x, tg, c, h => by
    unfold mI at h
    split at h
    · obtain ⟨h, h6⟩ := ands h
      obtain ⟨h, h5⟩ := ands h
      obtain ⟨h, h4⟩ := ands h
      obtain ⟨h, h3⟩ := ands h
      obtain ⟨h1, h2⟩ := ands h
      rw [beq_iff_eq] at h1
      subst h1
      intro g X ex S0 H0 gd
      exact (s_zip gd (sE p _ c h5 g X ex S0 H0 gd).1 (sE q _ c h6 g X ex S0 H0 gd).1 h2 h3 h4).imp fun σ H R ⟨ρ, S, Qi, r, hh, kk⟩ => ⟨ρ, S, Qi, r, by unfold wI at hh; exact hh, kk⟩
    · cases h
end
end
end G
/-! G13: statements. -/
namespace G
open PySem L2
/-! ### which stores are swapped -/
def swN (c : Sc) (s : Scope) (p : Pos) : Expr → Bool
  | .Name t pos => c.kd t == some .local && pos.line == p.line && !(s.names.any fun (n, k) => n == t && (k == .local || k == .cell))
  | _ => false
def swB (c : Sc) : Expr → Expr → Bool
  | .ListComp _ _ s p, t => swN c s p t
  | .SetComp _ _ s p, t => swN c s p t
  | .DictComp _ _ _ s p, t => swN c s p t
  | _, _ => false
def noComp : Expr → Bool
  | .ListComp _ _ _ _ => false
  | .SetComp _ _ _ _ => false
  | .DictComp _ _ _ _ _ => false
  | _ => true
def isStar : Expr → Bool
  | .Starred .. => true
  | _ => false
def parNames (c : Sc) (ts : List Expr) : List Str := ts.filterMap fun
  | .Name id pos => if c.kd id == some .local && pos.line == (ts.head?.map (·.pos.line)).getD 0 then some id else none
  | _ => none
def swNone (c : Sc) (ts vs : List Expr) : Bool :=
  (!(ts.length == 2 || ts.length == 3) || vs.length != ts.length) || (vs.any isStar) || ((parNames c ts).length != ts.length || (parNames c ts).eraseDups.length != (parNames c ts).length) || vs.all (foldedForSure 8)
def stN (c : Sc) : Expr → Expr → Bool
  | .Tuple ts _ _, .Tuple vs _ _ => swNone c ts vs
  | .List _ _, .Tuple _ _ _ => false
  | _, _ => true
section
variable {X : Cx} {c : Sc}
theorem block_fn {env : Env} (hk : env.scope.kind = .function) : env.blockKind = .function := by unfold Env.blockKind; rw [hk]; rfl
theorem sw_ok (hk : c.sc.kind = .function) (hs : X.env.scope = c.sc) {v t : Expr} {l : Nat} : swapsWith v (some t) l X.env = pure (swB c v t) := by
  have hb : X.env.blockKind = .function := block_fn (by rw [hs]; exact hk)
  have hn : ∀ x, X.env.kindOf x = c.kd x := fun x => by show List.lookup x X.env.scope.names = _; rw [hs]; rfl
  cases v <;> first | rfl | (cases t <;> first | rfl | (unfold swapsWith; simp only [hb, hn, swB, swN, Expr.pos]; rfl))
def swSome (c : Sc) (ts vs : List Expr) : Bool := !swNone c ts vs && !vs.all (constantsAlone 8)
theorem st_pair (hk : c.sc.kind = .function) (hs : X.env.scope = c.sc) {ts vs : List Expr} {n1 n2 : Nat} {p1 p2 : Pos} : swappedStores [.Tuple ts n1 p1] (.Tuple vs n2 p2) X.env =
    (if (!(ts.length == 2 || ts.length == 3) || vs.length != ts.length) = true then pure none else if (vs.any isStar) = true then pure none else
      if ((parNames c ts).length != ts.length || (parNames c ts).eraseDups.length != (parNames c ts).length) = true then pure none else if vs.all (foldedForSure 8) = true then pure none else
        if vs.all (constantsAlone 8) = true then (do unsupported "assign.tuple-of-constant-expressions:order-of-the-stores"; pure (some (parNames c ts))) else pure (some (parNames c ts))) := by
  have hb : X.env.blockKind = .function := block_fn (by rw [hs]; exact hk)
  have hn : ∀ x, X.env.kindOf x = c.kd x := fun x => by show List.lookup x X.env.scope.names = _; rw [hs]; rfl
  unfold swappedStores
  simp only [hb, hn]
  show (if (!(ts.length == 2 || ts.length == 3) || vs.length != ts.length || false) = true then _ else if (vs.any isStar) = true then _ else if ((parNames c ts).length != ts.length || (parNames c ts).eraseDups.length != (parNames c ts).length) = true then _ else _) = _
  rw [Bool.or_false]
  rfl
theorem st_none (hk : c.sc.kind = .function) (hs : X.env.scope = c.sc) {v t : Expr} (h : stN c t v = true) : swappedStores [t] v X.env = pure none := by
  unfold stN at h
  split at h
  · rename_i ts n1 p1 vs n2 p2
    rw [st_pair hk hs]
    unfold swNone at h
    split
    · rfl
    · split
      · rfl
      · split
        · rfl
        · split
          · rfl
          · exfalso
            simp_all
  · cases h
  · rename_i h1 h2
    cases t <;> first | rfl | (cases v <;> first | rfl | exact (h1 _ _ _ _ _ _ rfl rfl).elim | exact (h2 _ _ _ _ _ rfl rfl).elim)
theorem st_some (hk : c.sc.kind = .function) (hs : X.env.scope = c.sc) {ts vs : List Expr} {n1 n2 : Nat} {p1 p2 : Pos} (h : swSome c ts vs = true) : swappedStores [.Tuple ts n1 p1] (.Tuple vs n2 p2) X.env = pure (some (parNames c ts)) := by
  rw [st_pair hk hs]
  unfold swSome swNone at h
  split
  · exfalso; simp_all
  · split
    · exfalso; simp_all
    · split
      · exfalso; simp_all
      · split
        · exfalso; simp_all
        · split
          · exfalso; simp_all
          · rfl
end
/-! ### a target that takes the rest -/
def unS1 : Expr → Expr
  | .Starred t _ => t
  | t => t
def unS (es : List Expr) : List Expr := es.map unS1
theorem eachS {env : Env} : ∀ {es : List Expr}, (unS es).all noStar = true → (assignEach es env).map (·.2) = (assignEach (unS es) env).map (·.2) ∧ (assignEach es env).map (·.1) = es.map isStar ∧ (assignEach es env).length = es.length
  | [], _ => ⟨rfl, rfl, rfl⟩
  | e :: es, h => by
    unfold unS at h
    rw [List.map_cons, List.all_cons, Bool.and_eq_true] at h
    obtain ⟨i1, i2, i3⟩ := eachS (env := env) (es := es) h.2
    have e1 : ∀ (t : Expr) (ts : List Expr), noStar t = true → assignEach (t :: ts) env = (false, assign t env) :: assignEach ts env := fun t ts h => by
      cases t <;> first | rfl | cases h
    by_cases hs : ∃ t p, e = .Starred t p
    · obtain ⟨t, p, rfl⟩ := hs
      have hn : noStar t = true := h.1
      have e2 : assignEach (.Starred t p :: es) env = (true, assign t env) :: assignEach es env := rfl
      have e3 : unS (.Starred t p :: es) = t :: unS es := rfl
      rw [e2, e3, e1 t (unS es) hn]
      refine ⟨?_, ?_, ?_⟩
      · rw [List.map_cons, List.map_cons, i1]
      · rw [List.map_cons, List.map_cons, i2]; rfl
      · rw [List.length_cons, List.length_cons, i3]
    · have hn : noStar e = true ∧ unS1 e = e ∧ isStar e = false := by
        cases e <;> first | exact ⟨rfl, rfl, rfl⟩ | exact absurd ⟨_, _, rfl⟩ hs
      have e3 : unS (e :: es) = e :: unS es := by unfold unS; rw [List.map_cons, hn.2.1]
      rw [e3, e1 e es hn.1, e1 e (unS es) hn.1]
      refine ⟨?_, ?_, ?_⟩
      · rw [List.map_cons, List.map_cons, i1]
      · rw [List.map_cons, List.map_cons, i2, hn.2.2]
      · rw [List.length_cons, List.length_cons, i3]
section
open PySem.W PySem.Spec PySem.Calls PyProof.Rows
variable {prog : Program} {w : World} {A : Around} {E : Value → Shared → Prop} {s : Shared}
def starO (ms : List Value) : Obj := { cls := .type "list", data := .seq ms.toArray }
theorem unp_starL {l : Addr} {items : Array Value} {n i : Nat} {Q : List Value → Shared → Prop} (hl : s.heap.IsList l items) (hh : A.handled = none) (hi : i < n) (hn : n ≤ items.size + 1) (hz : items.size ≤ 16384)
    (h : ∀ (h' : Heap) (tk : Nat), (∀ b o, s.heap.get? b = some o → h'.get? b = some o) → Q (items.toList.take i ++ [.ref h'.objs.size] ++ (items.toList.drop i).drop (items.size + 1 - n)) { s with heap := h'.push (starO ((items.toList.drop i).take (items.size + 1 - n))), toks := tk }) :
    wpAny (model prog w) A (unpackItems (.ref l) n (some i)) Q E s := by
  have hlt : l ≠ s.heap.objs.size := by obtain ⟨o, ho, _⟩ := hl; exact Nat.ne_of_lt (Heap.lt_size ho)
  have hll : l < s.heap.objs.size := by obtain ⟨o, ho, _⟩ := hl; exact Heap.lt_size ho
  unfold unpackItems
  refine wpAny_bind ?_
  unfold notIterableAtAll
  refine wpAny_bind (wpAny_specialOf hl.typeIs slot_list_iter.lookup ?_)
  refine wpAny_pure ?_
  simp only [Bool.false_eq_true, if_false]
  refine wpAny_bind (wpAny_holding (wpAny_pyIter_list hl ?_))
  refine wpAny_bind (wpAny_holding (kun_draw hlt i 0 _ _ ⟨_, Heap.get?_push_size _ rfl, rfl, rfl⟩ (hl.push _) (by omega) fun h₁ hit₁ hs₁ => ?_))
  have hl₁ : h₁.IsList l items := (hl.push _).extBut hs₁.extBut hlt
  rw [Nat.zero_add] at hit₁
  have hit₁' := hit₁
  obtain ⟨oi, hoi, _⟩ := hit₁'
  have hl₁' := hl₁
  obtain ⟨ol, hol, _⟩ := hl₁'
  rw [List.drop_zero]
  have hfl : (items.toList.take i).length = i := by rw [List.length_take, Array.length_toList]; omega
  rw [if_neg (show ¬ ((items.toList.take i).length < i) by rw [hfl]; omega)]
  refine wpAny_bind (wpAny_holding (kun_collect (s := { s with heap := h₁ }) (T := "list_iterator") (.inr (.inr (.inl rfl))) (Walks.list (A := A.in1) hh s.heap.objs.size l hlt items) (fun j u st => st.1.typeIs) (k := i) (by omega) ⟨hit₁, hl₁⟩ (Heap.lt_size hoi) (Heap.lt_size hol) (fun h₂ tk hk => ?_) (by rw [sizeLine_eq]; omega)))
  have hrl : (items.toList.drop i).length = items.size - i := by rw [List.length_drop, Array.length_toList]
  have hmid : (items.toList.drop i).length - (n - 1 - i) = items.size + 1 - n := by rw [hrl]; omega
  show wpAny _ _ (if (items.toList.drop i).length < n - 1 - i then _ else _) _ _ _
  rw [if_neg (by rw [hrl]; omega)]
  show wpAny _ _ (newList ((items.toList.drop i).take ((items.toList.drop i).length - (n - 1 - i))) >>= fun d => pure (items.toList.take i ++ [d] ++ (items.toList.drop i).drop ((items.toList.drop i).length - (n - 1 - i)))) _ _ _
  rw [hmid]
  have he : ∀ b o, s.heap.get? b = some o → h₂.get? b = some o := fun b o e => hk b o (Nat.ne_of_lt (Heap.lt_size e)) (hs₁.extBut b o (Nat.ne_of_lt (Heap.lt_size e)) (Heap.get?_push_of_some _ e))
  exact wpAny_bind (wpAny_newList (s := { s with heap := h₂, toks := tk }) (wpAny_pure (h h₂ tk he)) (by rw [List.length_take, hrl, sizeLine_eq]; omega))
theorem unp_starT {l : Addr} {items : Array Value} {n i : Nat} {Q : List Value → Shared → Prop} (hl : IsTup s.heap l items) (hh : A.handled = none) (hi : i < n) (hn : n ≤ items.size + 1) (hz : items.size ≤ 16384)
    (h : ∀ (h' : Heap) (tk : Nat), (∀ b o, s.heap.get? b = some o → h'.get? b = some o) → Q (items.toList.take i ++ [.ref h'.objs.size] ++ (items.toList.drop i).drop (items.size + 1 - n)) { s with heap := h'.push (starO ((items.toList.drop i).take (items.size + 1 - n))), toks := tk }) :
    wpAny (model prog w) A (unpackItems (.ref l) n (some i)) Q E s := by
  have hlt : l ≠ s.heap.objs.size := by obtain ⟨o, ho, _⟩ := hl; exact Nat.ne_of_lt (Heap.lt_size ho)
  have hll : l < s.heap.objs.size := by obtain ⟨o, ho, _⟩ := hl; exact Heap.lt_size ho
  unfold unpackItems
  refine wpAny_bind ?_
  unfold notIterableAtAll
  refine wpAny_bind (wpAny_specialOf hl.typeIs slot_tuple_iter.lookup ?_)
  refine wpAny_pure ?_
  simp only [Bool.false_eq_true, if_false]
  refine wpAny_bind (wpAny_holding (iter_tuple hl ?_))
  refine wpAny_bind (wpAny_holding (draw_tuple hlt i 0 _ _ ⟨_, Heap.get?_push_size _ rfl, rfl, rfl⟩ (hl.push _) (by omega) fun h₁ hit₁ hs₁ => ?_))
  have hl₁ : IsTup h₁ l items := (hl.push _).extBut hs₁.extBut hlt
  rw [Nat.zero_add] at hit₁
  have hit₁' := hit₁
  obtain ⟨oi, hoi, _⟩ := hit₁'
  have hl₁' := hl₁
  obtain ⟨ol, hol, _⟩ := hl₁'
  rw [List.drop_zero]
  have hfl : (items.toList.take i).length = i := by rw [List.length_take, Array.length_toList]; omega
  rw [if_neg (show ¬ ((items.toList.take i).length < i) by rw [hfl]; omega)]
  refine wpAny_bind (wpAny_holding (kun_collect (s := { s with heap := h₁ }) (T := "tuple_iterator") (.inr (.inr (.inr rfl))) (Walks.tuple (A := A.in1) hh s.heap.objs.size l hlt items) (fun j u st => st.1.typeIs) (k := i) (by omega) ⟨hit₁, hl₁⟩ (Heap.lt_size hoi) (Heap.lt_size hol) (fun h₂ tk hk => ?_) (by rw [sizeLine_eq]; omega)))
  have hrl : (items.toList.drop i).length = items.size - i := by rw [List.length_drop, Array.length_toList]
  have hmid : (items.toList.drop i).length - (n - 1 - i) = items.size + 1 - n := by rw [hrl]; omega
  show wpAny _ _ (if (items.toList.drop i).length < n - 1 - i then _ else _) _ _ _
  rw [if_neg (by rw [hrl]; omega)]
  show wpAny _ _ (newList ((items.toList.drop i).take ((items.toList.drop i).length - (n - 1 - i))) >>= fun d => pure (items.toList.take i ++ [d] ++ (items.toList.drop i).drop ((items.toList.drop i).length - (n - 1 - i)))) _ _ _
  rw [hmid]
  have he : ∀ b o, s.heap.get? b = some o → h₂.get? b = some o := fun b o e => hk b o (Nat.ne_of_lt (Heap.lt_size e)) (hs₁.extBut b o (Nat.ne_of_lt (Heap.lt_size e)) (Heap.get?_push_of_some _ e))
  exact wpAny_bind (wpAny_newList (s := { s with heap := h₂, toks := tk }) (wpAny_pure (h h₂ tk he)) (by rw [List.length_take, hrl, sizeLine_eq]; omega))
end
theorem vals_split {xs : List V} {us : List Value} (r : Vals xs us) {d : V} {u : Value} (rd : RelV d u) (i m : Nat) : Vals (xs.take i ++ [d] ++ (xs.drop i).drop m) (us.take i ++ [u] ++ (us.drop i).drop m) := by
  have tk : ∀ (k : Nat) {xs : List V} {us : List Value}, Vals xs us → Vals (xs.take k) (us.take k) := by
    intro k
    induction k with
    | zero => intro xs us _; exact .nil
    | succ k ih =>
      intro xs us r
      cases r with
      | nil => exact .nil
      | cons a b => exact .cons a (ih b)
  have dp : ∀ (k : Nat) {xs : List V} {us : List Value}, Vals xs us → Vals (xs.drop k) (us.drop k) := by
    intro k
    induction k with
    | zero => intro xs us r; exact r
    | succ k ih =>
      intro xs us r
      cases r with
      | nil => exact .nil
      | cons a b => exact ih b
  have ap : ∀ {a : List V} {b : List Value} {c : List V} {e : List Value}, Vals a b → Vals c e → Vals (a ++ c) (b ++ e) := by
    intro a b c e r1 r2
    induction r1 with
    | nil => exact r2
    | cons x y ih => exact .cons x ih
  exact ap (ap (tk i r) (.cons rd .nil)) (dp m (dp i r))
theorem vals_mid {xs : List V} {us : List Value} (r : Vals xs us) (i m : Nat) : Vals ((xs.drop i).take m) ((us.drop i).take m) := by
  have tk : ∀ (k : Nat) {xs : List V} {us : List Value}, Vals xs us → Vals (xs.take k) (us.take k) := by
    intro k
    induction k with
    | zero => intro xs us _; exact .nil
    | succ k ih =>
      intro xs us r
      cases r with
      | nil => exact .nil
      | cons a b => exact .cons a (ih b)
  have dp : ∀ (k : Nat) {xs : List V} {us : List Value}, Vals xs us → Vals (xs.drop k) (us.drop k) := by
    intro k
    induction k with
    | zero => intro xs us r; exact r
    | succ k ih =>
      intro xs us r
      cases r with
      | nil => exact .nil
      | cons a b => exact ih b
  exact tk m (dp i r)
/-- a, *b, c = a tuple, a list -/
def gStar (K : PySem.W.Frag) (n i : Nat) (t : TGs) : TG := fun v σ H Q => ∃ a xs, v = .ref a ∧ (SqL K H a xs ∨ SqT K H a xs) ∧ n ≤ xs.length + 1 ∧ xs.length ≤ 16384 ∧
  ∀ p, H p = none → t (xs.take i ++ [.ref p] ++ (xs.drop i).drop (xs.length + 1 - n)) σ (upd H p (.lst ((xs.drop i).take (xs.length + 1 - n)))) Q
theorem pg_star {X : Cx} {es : List Expr} {k : Nat} {pos : Pos} {t : TGs} {n i : Nat} (hc : X.calm = true) (hs : (unS es).all noStar = true) (h : PGs X (unS es) t) (hn : es.length = n) (hst : es.findIdx? isStar = some i) : PG X (.Tuple es k pos) (gStar X.K n i t) := by
  obtain ⟨m1, m2, m3⟩ := eachS (env := X.env) hs
  have hst' : (assignEach es X.env).findIdx? (·.1) = some i := by
    rw [← hst]
    have : (assignEach es X.env).findIdx? (·.1) = ((assignEach es X.env).map (·.1)).findIdx? id := by rw [List.findIdx?_map]; rfl
    rw [this, m2, List.findIdx?_map]; rfl
  have hi : i < n := by rw [← hn]; exact (List.findIdx?_eq_some_iff_getElem.mp hst).1
  refine ⟨fun pins s σ H v u Q I r hw => ?_⟩
  obtain ⟨a, xs, e1, hq, hl, hz, hw⟩ := hw
  subst e1
  cases r
  have fin : ∀ (its : List Value), Vals xs its → ∀ (h' : Heap) (tk : Nat), (∀ b o, s.heap.get? b = some o → h'.get? b = some o) →
      wpAny (model X.prog X.w) X.A (assignInOrder ((assignEach es X.env).map (·.2)) (its.take i ++ [.ref h'.objs.size] ++ (its.drop i).drop (its.length + 1 - n))) (fun _ s' => ∃ σ' H', Inv X pins σ' H' s' ∧ Q σ' H') X.xe { s with heap := h'.push (starO ((its.drop i).take (its.length + 1 - n))), toks := tk } := by
    intro its rv h' tk hk
    have I2 : Inv X pins σ H { s with heap := h', toks := tk } := I.kept hk
    have hp : H h'.objs.size = none := I2.hok.fresh (Nat.le_refl _)
    have hlen := rv.length
    have I1 := I2.laid (a := h'.objs.size) (o := .lst ((xs.drop i).take (xs.length + 1 - n))) (h' := h'.push (starO ((its.drop i).take (its.length + 1 - n)))) (t' := tk) (fun b o e => Heap.get?_push_of_some _ e) (Nat.le_refl _) ⟨by rw [List.length_take, List.length_drop, sizeLine_eq]; omega, (its.drop i).take (its.length + 1 - n), 0, by rw [hlen]; exact vals_mid rv i _, Heap.get?_push_size _ rfl⟩
    rw [m1]
    exact h.run pins _ σ _ _ _ Q I1 (by rw [← hlen]; exact vals_split (d := .ref h'.objs.size) (u := .ref h'.objs.size) rv rfl i _) (hw _ hp)
  rw [PyProof.Rows.assign_Tuple]
  refine wpAny_bind (wpAny_standAt ?_)
  unfold unpack
  rw [m3, hn, hst']
  refine wpAny_bind (wpAny_holding ?_)
  rcases hq with hq | hq
  · obtain ⟨its, rv, pl, _⟩ := I.list hq
    have hl' : s.heap.IsList a its.toArray := by
      obtain ⟨o, m, e, c, d, q⟩ := pl
      exact ⟨o, e, c, m, q⟩
    have hlen := rv.length
    refine unp_starL hl' (I.ok.hd hc) hi (by rw [List.size_toArray, ← hlen]; exact hl) (by rw [List.size_toArray, ← hlen]; exact hz) fun h' tk hk => ?_
    have := fin its rv h' tk hk
    simpa only [List.size_toArray] using this
  · obtain ⟨its, rv, pl, _⟩ := I.tuple hq
    have hlen := rv.length
    refine unp_starT pl (I.ok.hd hc) hi (by rw [List.size_toArray, ← hlen]; exact hl) (by rw [List.size_toArray, ← hlen]; exact hz) fun h' tk hk => ?_
    have := fin its rv h' tk hk
    simpa only [List.size_toArray] using this
/-! ### the match -/
mutual
def mL (c : Sc) : Lh → Expr → Bool
  | .name i, .Name x _ => c.N[i]? == some x && (match c.kd x with | some .local => true | some .cell => c.fn x | _ => false)
  | .tup r, .Tuple es _ _ => !c.hot && mLs c r es
  | .tupS _ n r, .Tuple es _ _ => !c.hot && mLs c r (unS es) && es.findIdx? isStar == some n
  | .attr o f, .Attribute o' x _ => f == x && mE c o o'
  | .sub o i, .Subscript o' i' _ => mE c o o' && mE c i i' && plainSlice i'
  | _, _ => false
def mLs (c : Sc) : Lhs → List Expr → Bool
  | .nil, [] => true
  | .cons t r, e :: es => noStar e && mL c t e && mLs c r es
  | _, _ => false
end
def isName : Lh → Bool
  | .name _ => true
  | _ => false
def isLc : Expr → Bool
  | .ListComp .. => true
  | .DictComp .. => true
  | _ => false
def asgB (c : Sc) (t : Lh) (e : E) : List Expr → Expr → Bool
  | [tg], x => mL c t tg && mE c e x && (!swB c x tg && stN c tg x || swB c x tg && (!c.hot && (isName t && isLc x)))
  | _, _ => false
def parB2 (c : Sc) (i j : Nat) (a b : E) : List Expr → List Expr → Bool
  | [.Name x px, .Name y py], [a', b'] => c.N[i]? == some x && c.N[j]? == some y && !(i == j) && c.kd x == some .local && c.kd y == some .local && mE c a a' && mE c b b' && noStar a' && noStar b' &&
      swSome c [.Name x px, .Name y py] [a', b'] && parNames c [.Name x px, .Name y py] == [x, y]
  | _, _ => false
def parB1 (c : Sc) (i j : Nat) (a b : E) : Expr → Expr → Bool
  | .Tuple ts _ _, .Tuple vs _ _ => parB2 c i j a b ts vs
  | _, _ => false
def parB (c : Sc) (i j : Nat) (a b : E) : List Expr → Expr → Bool
  | [tg], x => parB1 c i j a b tg x
  | _, _ => false
def par3B2 (c : Sc) (i j l : Nat) (a b d : E) : List Expr → List Expr → Bool
  | [.Name x px, .Name y py, .Name z pz], [a', b', d'] => c.N[i]? == some x && c.N[j]? == some y && c.N[l]? == some z && !(i == j) && !(i == l) && !(j == l) && c.kd x == some .local && c.kd y == some .local && c.kd z == some .local && mE c a a' && mE c b b' && mE c d d' && noStar a' && noStar b' && noStar d' &&
      swSome c [.Name x px, .Name y py, .Name z pz] [a', b', d'] && parNames c [.Name x px, .Name y py, .Name z pz] == [x, y, z]
  | _, _ => false
def par3B (c : Sc) (i j l : Nat) (a b d : E) : List Expr → Expr → Bool
  | [.Tuple ts _ _], .Tuple vs _ _ => par3B2 c i j l a b d ts vs
  | _, _ => false
/-- a clause's classes -/
def clB (c : Sc) (cs : List Str) : Expr → Bool
  | .Name y p => mNs c cs [.Name y p]
  | .Tuple ys _ _ => mNs c cs ys && (cs.length == 2 || cs.length == 3)
  | _ => false
def asB (c : Sc) : Option Nat → Option Str → Bool
  | none, none => true
  | some i, some n => c.N[i]? == some n && c.kd n == some .local
  | _, _ => false
mutual
def mS (c : Sc) : St → Stmt → Bool
  | .expr e, .Expr x _ => mE c e x && noComp x
  | .ret e, .Return (some x) _ => mE c e x
  | .retN, .Return none _ => true
  | .pass, .Pass _ => true
  | .brk, .Break _ => true
  | .cont, .Continue _ => true
  | .asg t e, .Assign tgs x _ => asgB c t e tgs x
  | .par i j a b, .Assign tgs x _ => parB c i j a b tgs x && !c.hot
  | .par3 i j l a b d, .Assign tgs x _ => par3B c i j l a b d tgs x && !c.hot
  | .ife t a b, .If t' a' b' _ => mE c t t' && mSs c a a' && mSs c b b'
  | .for t it b, .For t' it' b' [] _ => mI c it it' t' && noSet it' && mG c t t' && mSs c b b' && !c.hot
  | .bad, _ => true
  | .whl t b, .While t' b' [] _ => mE c t t' && mSs c b b' && !c.hot
  | .raise C es, .Raise (some (.Call (.Name x _) es' [] _)) none _ => C == x && glB (c.kd x) && !(x == dbg) && mEs c es es' && !c.hot
  | .tri b h, .Try b' hs [] [] _ => !c.hot && mSs c b b' && mH c h hs && !hs.isEmpty
  | _, _ => false
def mH (c : Sc) : Hs → List ExceptHandler → Bool
  | .nil, [] => true
  | .cons cs i b r, .ExceptHandler (some t) nm suite _ :: hs => clB c cs t && asB c i nm && !suite.isEmpty && mSs { c with hot := true } b suite && mH c r hs
  | _, _ => false
def mSs (c : Sc) : Ss → List Stmt → Bool
  | .nil, [] => true
  | .cons s r, x :: xs => mS c s x && mSs c r xs
  | _, _ => false
end
/-! ### places to store in -/
theorem pg_attr {X : Cx} {o : Expr} {f : Str} {pos : Pos} {to : TE} (ho : PE X o to) : PG X (.Attribute o f pos) (fun v σ H Q => to σ H fun x H1 => ∃ a C dx fs, x = .ref a ∧ H1 a = some (.ins C dx fs) ∧ Cls X.K C ∧ NoAttr X.K C f ∧ fs.length < 1000 ∧ Q σ (upd H1 a (.ins C dx (putF f v fs)))) := by
  refine ⟨fun pins s σ H v u Q I r h => ?_⟩
  show wpAny _ X.A (do let ov ← holding [u] (eval o X.env); standAt pos.atName; holding [u, ov] (setAttr ov f u); release [u, ov] []) _ _ s
  refine wpAny_bind (wpAny_holding (thn (ho.run pins s σ H _ I h) fun ov s1 ⟨x, H1, I1, r1, q1⟩ => ?_))
  obtain ⟨a, C, dx, fs, rfl, ea, cl, na, l, q⟩ := q1
  cases r1
  exact wpAny_bind (wpAny_standAt (wpAny_bind (wpAny_holding (setattr_ok I1 ea cl na l r fun s3 I3 => wpAny_release ⟨σ, _, I3, q⟩))))
def RLd (g : Gx) (S0 : Sto) (H0 : Hp) (w : D → Sl → Sto → (Sl → Sto → Prop) → Prop) : TG := fun v σ H Q => ∃ d ρ S Qd, RD g S H d v ∧ Rl g S0 H0 ρ S σ H ∧ w d ρ S Qd ∧ ∀ ρ' S' σ' H', Rl g S0 H0 ρ' S' σ' H' → Step S H S' H' → Qd ρ' S' → Q σ' H'
def RLs (g : Gx) (S0 : Sto) (H0 : Hp) (w : List D → Sl → Sto → (Sl → Sto → Prop) → Prop) : TGs := fun us σ H Q => ∃ ds ρ S Qd, RDs g S H ds us ∧ Rl g S0 H0 ρ S σ H ∧ w ds ρ S Qd ∧ ∀ ρ' S' σ' H', Rl g S0 H0 ρ' S' σ' H' → Step S H S' H' → Qd ρ' S' → Q σ' H'
section
variable {T : Tab} {k : Nat} {g : Gx} {X : Cx} {c : Sc} {ex : QE} {S0 : Sto} {H0 : Hp}
theorem RFs.put {S : Sto} {H : Hp} {f : Str} {d : D} {v : V} (rd : RD g S H d v) : ∀ {fs : List (Str × D)} {gs : List (Str × V)}, RFs g S H fs gs → RFs g S H (putD f d fs) (putF f v gs)
  | [], gs, h => by unfold RFs at h; subst h; unfold putD; exact ⟨v, [], rfl, rd, rfl⟩
  | (x, y) :: fs, gs, h => by
    unfold RFs at h
    obtain ⟨u, r, rfl, h1, h2⟩ := h
    unfold putD putF
    by_cases hx : x = f
    · rw [if_pos hx, if_pos hx]; exact ⟨v, r, rfl, rd, h2⟩
    · rw [if_neg hx, if_neg hx]; exact ⟨u, _, rfl, h1, RFs.put rd h2⟩
theorem RFs.length {S : Sto} {H : Hp} : ∀ {fs : List (Str × D)} {gs : List (Str × V)}, RFs g S H fs gs → fs.length = gs.length
  | [], gs, h => by unfold RFs at h; subst h; rfl
  | (x, y) :: fs, gs, h => by
    unfold RFs at h
    obtain ⟨u, r, rfl, h1, h2⟩ := h
    simp [RFs.length h2]
theorem mLs_star : ∀ {ts : Lhs} {es : List Expr}, mLs c ts es = true → es.all noStar = true
  | .nil, [], _ => rfl
  | .cons t r, e :: es, h => by
    unfold mLs at h
    rw [Bool.and_eq_true, Bool.and_eq_true] at h
    rw [List.all_cons, h.1.1, mLs_star h.2]; rfl
  | .nil, _ :: _, h => by unfold mLs at h; cases h
  | .cons _ _, [], h => by unfold mLs at h; cases h
theorem mLs_len : ∀ {ts : Lhs} {es : List Expr}, mLs c ts es = true → es.length = lhsLen ts
  | .nil, [], _ => rfl
  | .cons t r, e :: es, h => by
    unfold mLs at h
    rw [Bool.and_eq_true, Bool.and_eq_true] at h
    show es.length + 1 = lhsLen r + 1
    rw [mLs_len h.2]
  | .nil, _ :: _, h => by unfold mLs at h; cases h
  | .cons _ _, [], h => by unfold mLs at h; cases h
/-- something is put into a list or a dict, by data -/
def RPt (g : Gx) : V → V → V → Hp → (Hp → Prop) → Prop := fun x y v H Q => ∃ d1 d2 d S Qd, RD g S H d1 x ∧ RD g S H d2 y ∧ RD g S H d v ∧ RS g S H ∧ putS S d1 d2 d Qd ∧ ∀ S' H', RS g S' H' → Step S H S' H' → Qd S' → Q H'
theorem set_any {X : Cx} {g : Gx} (hK : X.K = g.K) (hu : X.A.units + 1 < cLine) : PSet X (RPt g) := by
  intro pins s σ H x y v ov iv u Q I rx ry rv ⟨d1, d2, d, S, Qd, r1, r2, rd, rs, h, kk⟩
  unfold putS at h
  split at h
  · rename_i a
    split at h
    · rename_i xs es
      obtain ⟨n, j, rfl, hj, q⟩ := h
      obtain ⟨us, hu', ru⟩ := (rs.1 _ _ es).2
      have pt := rs.put es hu' (ru.set j rd)
      exact set_list pins s σ H x y v ov iv u Q I rx ry rv ⟨a, us, n, j, r1.ofObj, r2.ofInt, hu', by rw [← ru.length]; exact hj, kk _ _ pt.1 pt.2 q⟩
    · rename_i kvs es
      obtain ⟨hk, hl, q⟩ := h
      obtain ⟨key, hq⟩ := Option.isSome_iff_exists.mp hk
      obtain ⟨gs, hg, rg⟩ := (rs.1 _ _ es).2
      have pt := put_dct rs es hg (putKD_put hq rd rg)
      rw [r1.ofObj] at rx
      obtain rfl : ov = Value.ref a := rx
      have ey := key_rd r2 hq
      subst ey
      exact d_setItem hu I (DPut.k hg (by rw [← rg.length]; exact lim_size' hl)) ry rv fun s' I' => ⟨_, I', kk _ _ pt.1 pt.2 q⟩
    · exact h.elim
  · exact h.elim
mutual
theorem sL (gd : Good T k g X c ex S0 H0) : ∀ (t : Lh) (x : Expr), mL c t x = true → PG X x (RLd g S0 H0 (wL T ex t))
  | .name i, x, h => by
    cases x with
    | Name x pos =>
      unfold mL at h
      rw [Bool.and_eq_true, beq_iff_eq] at h
      obtain ⟨h1, h2⟩ := h
      have hk : List.lookup x X.env.scope.names = some .local ∨ (List.lookup x X.env.scope.names = some .cell ∧ X.fn x = true) := by
        rw [gd.sc, gd.fnk]
        show c.kd x = _ ∨ (c.kd x = _ ∧ _)
        cases e : c.kd x with
        | none => rw [e] at h2; cases h2
        | some kd =>
          rw [e] at h2
          cases kd <;> first | exact .inl rfl | exact .inr ⟨rfl, h2⟩ | cases h2
      refine (pg_name (i := i) gd.nd (by rw [gd.N]; exact h1) (hk.imp id (·.1)) (hk.elim .inr fun z => .inl z.2)).imp fun v σ H Q q => ?_
      obtain ⟨d, ρ, S, Qd, rd, r, hw, kk⟩ := q
      unfold wL at hw
      exact kk _ _ _ _ (r.set rd) (Step.refl S H) hw
    | _ => exact nomatch (show false = true from h)
  | .tup ts, x, h => by
    cases x with
    | Tuple es n pos =>
      unfold mL at h
      obtain ⟨hz, h⟩ := ands h
      have hs := mLs_star h
      have ih := sLs gd ts es h
      refine ⟨fun pins s σ H v u Q I ru q => ?_⟩
      obtain ⟨d, ρ, S, Qd, rd, r, hw, kk⟩ := q
      unfold wL at hw
      obtain ⟨xs, e, hlen, hw⟩ := hw
      obtain ⟨p, us, rfl, sq, rds⟩ := rd.seq r.rs e
      have hl : us.length = es.length := by rw [← rds.length, mLs_len h]; exact hlen
      rcases sq with sq | sq
      · exact (pg_unl (n := es.length) (gd.calm (hot_no hz)) ih asg_len (asg_star hs)).run pins s σ H _ u Q I ru ⟨p, us, rfl, gd.gK ▸ sq, hl, xs, ρ, S, Qd, rds, r, hw, kk⟩
      · exact (pg_tup (n := es.length) (gd.calm (hot_no hz)) ih asg_len (asg_star hs)).run pins s σ H _ u Q I ru ⟨p, us, rfl, gd.gK ▸ sq, hl, xs, ρ, S, Qd, rds, r, hw, kk⟩
    | _ => exact nomatch (show false = true from h)
  | .tupS fz n ts, x, h => by
    cases x with
    | Tuple es nn pos =>
      unfold mL at h
      obtain ⟨h, hf⟩ := ands h
      obtain ⟨hz, h⟩ := ands h
      rw [beq_iff_eq] at hf
      have hs := mLs_star h
      have ih := sLs gd ts (unS es) h
      have hlen := mLs_len h
      have hlen2 : es.length = lhsLen ts := by unfold unS at hlen; rwa [List.length_map] at hlen
      refine ⟨fun pins s σ H v u Q I ru q => ?_⟩
      obtain ⟨d, ρ, S, Qd, rd, r, hw, kk⟩ := q
      unfold wL at hw
      obtain ⟨xs, e, hl, hn, h16, hw⟩ := hw
      obtain ⟨p, us, rfl, sq, rds⟩ := rd.seq r.rs e
      have hul := rds.length
      refine (pg_star (n := es.length) (gd.calm (hot_no hz)) hs ih rfl hf).run pins s σ H _ u Q I ru ⟨p, us, rfl, by rw [gd.gK]; exact sq, by rw [hlen2, ← hul]; exact hl, by rw [← hul]; exact h16, fun p2 hp2 => ?_⟩
      have mids : RDs g S H ((xs.drop n).take (xs.length + 1 - lhsLen ts)) ((us.drop n).take (us.length + 1 - es.length)) := by
        rw [hlen2, ← hul]; exact (rds.drop n).take _
      have kN : Cont g S H (fun l S1 => wLs T ex ts (xs.take n ++ [l] ++ (xs.drop n).drop (xs.length + 1 - lhsLen ts)) ρ S1 Qd)
          (fun v H1 => RLs g S0 H0 (wLs T ex ts) (us.take n ++ [v] ++ (us.drop n).drop (us.length + 1 - es.length)) σ H1 Q) := fun v l S1 H1 rl rs1 st1 q1 => by
        refine ⟨xs.take n ++ [l] ++ (xs.drop n).drop (xs.length + 1 - lhsLen ts), ρ, S1, Qd, ?_, r.step rs1 st1, q1, fun ρ2 S2 σ2 H2 r2 st2 q2 => kk ρ2 S2 σ2 H2 r2 (st1.trans st2) q2⟩
        rw [hlen2, ← hul]
        exact (((rds.take n).mono st1).append (RDs.cons rl RDs.nil)).append (((rds.drop n).drop _).mono st1)
      exact kN.newL r.rs mids hw p2 hp2
    | _ => exact nomatch (show false = true from h)
  | .attr o f, x, h => by
    cases x with
    | Attribute o' y pos =>
      unfold mL at h
      obtain ⟨h1, h2⟩ := ands h
      rw [beq_iff_eq] at h1
      subst h1
      refine (pg_attr (sE o o' c h2 g X ex S0 H0 gd).1).imp fun v σ H Q q => ?_
      obtain ⟨d, ρ, S, Qd, rd, r, hw, kk⟩ := q
      unfold wL at hw
      refine ⟨ρ, S, _, r, hw, fun x d1 S1 H1 rd1 rs1 st1 q1 => ?_⟩
      obtain ⟨a, C, fs, rfl, es1, hf, hl, q1⟩ := q1
      obtain ⟨c', dx, gs, hm', q, sdx, hdx, rf⟩ := (rs1.1 _ _ es1).2
      obtain ⟨cc, hm, cl, na⟩ := gd.ge.fld C f hf
      rw [hm] at hm'
      obtain rfl : cc = c' := Value.ref.inj (Option.some.inj hm')
      have sn : S1 a ≠ none := by rw [es1]; exact fun z => nomatch z
      have nd : dx ≠ a := fun z => by rw [z, q] at hdx; cases hdx
      have st2 : Step S1 H1 (S1.set a (.ins C (putD f d fs))) (upd H1 a (.ins cc dx (putF f v gs))) := Step.write (.inl sn)
      have rs2 := rs1.write (.inl sn) st2 ⟨cc, dx, _, hm, upd_same, ⟨by rw [Sto.set_ne nd]; exact sdx.1, sdx.2⟩, by rw [upd_ne nd]; exact hdx, (RFs.put (rd.mono st1) rf).mono st2⟩ (fun b e => by rw [q] at e; cases e)
      refine ⟨a, cc, dx, gs, rd1.ofObj, q, gd.gK ▸ cl, gd.gK ▸ na, by rw [← RFs.length rf]; omega, kk _ _ _ _ ((r.step rs1 st1).step rs2 st2) (st1.trans st2) q1⟩
    | _ => exact nomatch (show false = true from h)
  | .sub o i, x, h => by
    cases x with
    | Subscript o' i' pos =>
      unfold mL at h
      obtain ⟨h, h3⟩ := ands h
      obtain ⟨h1, h2⟩ := ands h
      refine (pg_sub (sE o o' c h1 g X ex S0 H0 gd).1 (sE i i' c h2 g X ex S0 H0 gd).1 (set_any gd.gK (by have := gd.room.un; omega)) (fun v => ?_)).imp fun v σ H Q q => ?_
      · cases i' <;> first | rfl | cases h3
      obtain ⟨d, ρ, S, Qd, rd, r, hw, kk⟩ := q
      unfold wL at hw
      refine ⟨ρ, S, _, r, hw, fun x d1 S1 H1 rd1 rs1 st1 q1 => ⟨ρ, S1, _, r.step rs1 st1, q1, fun y d2 S2 H2 rd2 rs2 st2 q2 => ?_⟩⟩
      refine ⟨d1, d2, d, S2, _, rd1.mono st2, rd2, (rd.mono st1).mono st2, rs2, q2, fun S3 H3 rs3 st3 q3 => ?_⟩
      exact kk _ _ _ _ (((r.step rs1 st1).step rs2 st2).step rs3 st3) ((st1.trans st2).trans st3) q3
    | _ => exact nomatch (show false = true from h)
theorem sLs (gd : Good T k g X c ex S0 H0) : ∀ (ts : Lhs) (es : List Expr), mLs c ts es = true → PGs X es (RLs g S0 H0 (wLs T ex ts))
  | .nil, es, h => by
    cases es with
    | nil =>
      refine pgs_nil.imp fun us σ H Q q => ?_
      obtain ⟨ds, ρ, S, Qd, rds, r, hw, kk⟩ := q
      unfold wLs at hw
      obtain ⟨rfl, hw⟩ := hw
      unfold RDs at rds
      exact ⟨rds, kk ρ S σ H r (Step.refl S H) hw⟩
    | cons _ _ => unfold mLs at h; cases h
  | .cons t ts, es, h => by
    cases es with
    | nil => unfold mLs at h; cases h
    | cons e es =>
      unfold mLs at h
      rw [Bool.and_eq_true, Bool.and_eq_true] at h
      have e1 : (assignEach (e :: es) X.env).map (·.2) = assign e X.env :: (assignEach es X.env).map (·.2) := by
        have := h.1.1
        cases e <;> first | rfl | cases this
      refine (pgs_cons (sL gd t e h.1.2) (sLs gd ts es h.2) e1).imp fun us σ H Q q => ?_
      obtain ⟨ds, ρ, S, Qd, rds, r, hw, kk⟩ := q
      unfold wLs at hw
      split at hw
      · unfold RDs at rds
        obtain ⟨v, us', rfl, rd, rds⟩ := rds
        exact ⟨v, us', rfl, _, ρ, S, _, rd, r, hw, fun ρ1 S1 σ1 H1 r1 st1 q1 => ⟨_, ρ1, S1, Qd, rds.mono st1, r1, q1, fun ρ2 S2 σ2 H2 r2 st2 q2 => kk ρ2 S2 σ2 H2 r2 (st1.trans st2) q2⟩⟩
      · exact hw.elim
end
end
end G
/-! G14: every statement that matches keeps its wish; a def keeps its promise. -/
namespace G
open PySem L2
/-- what is wanted behind a statement, by data -/
structure CN (g : Gx) (S0 : Sto) (H0 : Hp) (S : Sto) (H : Hp) (N : Nd) (D : Ends) : Prop where
  nx : ∀ ρ' S' σ' H', Rl g S0 H0 ρ' S' σ' H' → Step S H S' H' → N.nx ρ' S' → D.nx σ' H'
  rt : ∀ v d S' H', RD g S' H' d v → RS g S' H' → Step S H S' H' → N.rt d S' → D.rt v H'
  bk : ∀ ρ' S' σ' H', Rl g S0 H0 ρ' S' σ' H' → Step S H S' H' → N.bk ρ' S' → D.bk σ' H'
  ct : ∀ ρ' S' σ' H', Rl g S0 H0 ρ' S' σ' H' → Step S H S' H' → N.ct ρ' S' → D.ct σ' H'
theorem CN.from {g : Gx} {S0 S S1 : Sto} {H0 H H1 : Hp} {N : Nd} {D : Ends} (k : CN g S0 H0 S H N D) (st : Step S H S1 H1) : CN g S0 H0 S1 H1 N D :=
  ⟨fun _ _ _ _ r s q => k.nx _ _ _ _ r (st.trans s) q, fun _ _ _ _ rd rs s q => k.rt _ _ _ _ rd rs (st.trans s) q, fun _ _ _ _ r s q => k.bk _ _ _ _ r (st.trans s) q, fun _ _ _ _ r s q => k.ct _ _ _ _ r (st.trans s) q⟩
def RSt (g : Gx) (S0 : Sto) (H0 : Hp) (w : Sl → Sto → Nd → Prop) : TS := fun D σ H => ∃ ρ S N, Rl g S0 H0 ρ S σ H ∧ w ρ S N ∧ CN g S0 H0 S H N D
structure GoodS (T : Tab) (k : Nat) (g : Gx) (X : Cx) (c : Sc) (ex : QE) (S0 : Sto) (H0 : Hp) : Prop extends Good T k g X c ex S0 H0 where
  fk : c.sc.kind = .function
  po : PassesOwn (model X.prog X.w) X.A X.env X.xe
  stk : X.stack = X.env :: X.outer
  fr : X.env.frame = some X.env.locals
  noex : X.ex = []
section
variable {T : Tab} {k : Nat} {g : Gx} {X : Cx} {c : Sc} {ex : QE} {S0 : Sto} {H0 : Hp}
theorem asg1 {t : Expr} {env : Env} (h : noStar t = true) : (assignEach [t] env).map (·.2) = [assign t env] := by
  cases t <;> first | rfl | cases h
theorem mL_star {t : Lh} {x : Expr} (h : mL c t x = true) : noStar x = true := by
  cases t <;> cases x <;> first | rfl | (unfold mL at h; cases h)
theorem sw_none {v : Expr} {l : Nat} {env : Env} (h : noComp v = true) : swapsWith v none l env = pure false := by
  cases v <;> first | rfl | cases h
theorem for_read {w : Sl → Sto → (List D → (Sto → Prop) → Sto → Prop) → Prop} {wg : D → Sl → (Sl → Prop) → Prop} {is : List Nat} {wb : Sl → Sto → Nd → Prop} {D : Ends} {σ : L2.St} {H : Hp}
    (h : RSt g S0 H0 (fun ρ S N => w ρ S fun ds same S1 => wFor wg wb same N ds ρ S1) D σ H) : tFor (RI g S0 H0 w) (RG g S0 H0 wg is) (RSt g S0 H0 wb) D σ H := by
  obtain ⟨ρ, S, N, r, h, kk⟩ := h
  refine ⟨ρ, S, _, r, h, fun ds same S1 H1 J rs1 st1 itr q1 => ?_⟩
  refine ⟨fun i m σ' H' => ∃ ρ' S', m = ds.length - i ∧ i ≤ ds.length ∧ Rl g S0 H0 ρ' S' σ' H' ∧ Step S H S' H' ∧ ItR g J ds same S' H' ∧ wFor wg wb same N (ds.drop i) ρ' S', ⟨_, ρ, S1, rfl, Nat.zero_le _, r.step rs1 st1, st1, itr, q1⟩, ?_⟩
  rintro i m σ' H' ⟨ρ', S', rfl, hi, r', st', itr', hw⟩
  obtain ⟨hgo, hstop⟩ := itr'.get r'.rs
  by_cases hlt : i < ds.length
  · right
    have hd : ds[i]? = some ds[i] := List.getElem?_eq_getElem hlt
    rw [List.drop_eq_getElem_cons hlt] at hw
    unfold wFor at hw
    obtain ⟨hsame, hw⟩ := hw
    refine ⟨(hgo i _ hd).1, _, fun σ'' H'' h => h, fun x H'' hy => ?_⟩
    obtain ⟨rs2, st2, rd2⟩ := (hgo i _ hd).2 x H'' hy
    have same_of : ∀ {ds' : List G.D} {ρ2 : Sl} {S2 : Sto}, wFor wg wb same N ds' ρ2 S2 → same S2 := by
      intro ds' ρ2 S2 hq
      cases ds' <;> (unfold wFor at hq; exact hq.1)
    have next : ∀ ρ3 S3 σ3 H3, Rl g S0 H0 ρ3 S3 σ3 H3 → Step S' H'' S3 H3 → wFor wg wb same N (ds.drop (i + 1)) ρ3 S3 →
        ∃ m', m' < ds.length - i ∧ ∃ ρ' S', m' = ds.length - (i + 1) ∧ i + 1 ≤ ds.length ∧ Rl g S0 H0 ρ' S' σ3 H3 ∧ Step S H S' H3 ∧ ItR g J ds same S' H3 ∧ wFor wg wb same N (ds.drop (i + 1)) ρ' S' :=
      fun ρ3 S3 σ3 H3 r3 st3 q3 => ⟨_, by omega, ρ3, S3, rfl, hlt, r3, st'.trans (st2.trans st3), itr'.step (st2.trans st3) (same_of q3), q3⟩
    refine ⟨_, ρ', S', _, rd2, r'.step rs2 st2, hw, fun ρ2 σ2 r2 _ q2 => ⟨ρ2, S', _, r2, q2, ⟨fun ρ3 S3 σ3 H3 r3 st3 q3 => next ρ3 S3 σ3 H3 r3 st3 q3, fun v d S3 H3 rd rs3 st3 q3 => kk.rt v d S3 H3 rd rs3 (st'.trans (st2.trans st3)) q3,
      fun ρ3 S3 σ3 H3 r3 st3 q3 => kk.nx ρ3 S3 σ3 H3 r3 (st'.trans (st2.trans st3)) q3, fun ρ3 S3 σ3 H3 r3 st3 q3 => next ρ3 S3 σ3 H3 r3 st3 q3⟩⟩⟩
  · left
    have he : i = ds.length := by omega
    rw [he, List.drop_length] at hw
    unfold wFor at hw
    exact ⟨hstop i he, kk.nx ρ' S' σ' H' r' st' hw.2⟩
theorem while_read {wt : Sl → Sto → (Bool → Sto → Prop) → Prop} {wb : Sl → Sto → Nd → Prop} {D : Ends} {σ : L2.St} {H : Hp}
    (h : RSt g S0 H0 (fun ρ S N => ∃ W : Nat → Sl → Sto → Prop, (∃ m, W m ρ S) ∧ ∀ m ρ S, W m ρ S → wt ρ S fun k S1 =>
      if k = true then wb ρ S1 { N with nx := fun ρ' S' => ∃ m', m' < m ∧ W m' ρ' S', ct := fun ρ' S' => ∃ m', m' < m ∧ W m' ρ' S', bk := N.nx } else N.nx ρ S1) D σ H) : tWhile (RT g S0 H0 wt) (RSt g S0 H0 wb) D σ H := by
  obtain ⟨ρ, S, N, r, ⟨W, ⟨m, w0⟩, hw⟩, kk⟩ := h
  refine ⟨fun m σ' H' => ∃ ρ' S', Rl g S0 H0 ρ' S' σ' H' ∧ Step S H S' H' ∧ W m ρ' S', ⟨m, ρ, S, r, Step.refl S H, w0⟩, ?_⟩
  rintro m σ1 H1 ⟨ρ1, S1, r1, st1, w1⟩
  refine ⟨ρ1, S1, _, r1, hw m ρ1 S1 w1, fun b S2 H2 rs2 st2 q2 => ?_⟩
  cases b with
  | false => exact kk.nx ρ1 S2 σ1 H2 (r1.step rs2 st2) (st1.trans st2) q2
  | true =>
    refine ⟨_, fun σ' H' h => h, ρ1, S2, _, r1.step rs2 st2, q2, ?_⟩
    have nx : ∀ ρ3 S3 σ3 H3, Rl g S0 H0 ρ3 S3 σ3 H3 → Step S2 H2 S3 H3 → (∃ m', m' < m ∧ W m' ρ3 S3) → ∃ m', m' < m ∧ ∃ ρ' S', Rl g S0 H0 ρ' S' σ3 H3 ∧ Step S H S' H3 ∧ W m' ρ' S' :=
      fun ρ3 S3 σ3 H3 r3 st3 ⟨m', hm, w'⟩ => ⟨m', hm, ρ3, S3, r3, st1.trans (st2.trans st3), w'⟩
    exact ⟨nx, fun v d S3 H3 rd rs3 st3 q3 => kk.rt v d S3 H3 rd rs3 (st1.trans (st2.trans st3)) q3, fun ρ3 S3 σ3 H3 r3 st3 q3 => kk.nx ρ3 S3 σ3 H3 r3 (st1.trans (st2.trans st3)) q3, nx⟩
theorem s_parS (gd : GoodS T k g X c ex S0 H0) (hz : c.hot = false) {i j : Nat} {a b : E} {x : Stmt} (h : (match x with | .Assign tgs x _ => parB c i j a b tgs x | _ => false) = true) : PS X x (RSt g S0 H0 (wS T (.par i j a b) ex)) := by
  cases x with
  | Assign tgs x pos =>
    cases tgs with
    | nil => unfold parB at h; cases h
    | cons tg tgs =>
      cases tgs with
      | cons _ _ => unfold parB at h; cases h
      | nil =>
        cases tg with
        | Tuple ts n1 p1 =>
          cases x with
          | Tuple vs n2 p2 =>
            dsimp only at h
            replace h : parB2 c i j a b ts vs = true := h
            unfold parB2 at h
            split at h
            · rename_i x px y py a' b'
              obtain ⟨h, h11⟩ := ands h
              obtain ⟨h, h10⟩ := ands h
              obtain ⟨h, h9⟩ := ands h
              obtain ⟨h, h8⟩ := ands h
              obtain ⟨h, h7⟩ := ands h
              obtain ⟨h, h6⟩ := ands h
              obtain ⟨h, h5⟩ := ands h
              obtain ⟨h, h4⟩ := ands h
              obtain ⟨h, h3⟩ := ands h
              obtain ⟨h1, h2⟩ := ands h
              have hx : X.N[i]? = some x := by rw [gd.N]; simpa using h1
              have hy : X.N[j]? = some y := by rw [gd.N]; simpa using h2
              have hij : i ≠ j := by simpa using h3
              have kx : X.env.scope.names.lookup x = some .local := by rw [gd.sc]; exact beq_iff_eq.mp h4
              have ky : X.env.scope.names.lookup y = some .local := by rw [gd.sc]; exact beq_iff_eq.mp h5
              have hp : swappedStores [.Tuple [.Name x px, .Name y py] n1 p1] (.Tuple [a', b'] n2 p2) X.env = pure (some [x, y]) := by
                rw [st_some gd.fk gd.sc h10, beq_iff_eq.mp h11]
              have ha := s_cons (sE a a' c h6 g X ex S0 H0 gd.toGood).1 (s_cons (sE b b' c h7 g X ex S0 H0 gd.toGood).1 s_nil h9) h8
              refine (ps_par (pos := pos) (gd.calm hz) gd.nd hx hy hij kx ky ha hp rfl).imp fun D σ H q => ?_
              obtain ⟨ρ, S, N, r, hw, kk⟩ := q
              unfold wS at hw
              refine ⟨ρ, S, fun ds S2 => match ds with | [d1, d2] => N.nx ((ρ.set i (some d1)).set j (some d2)) S2 | _ => False, r, hw, fun us ds S1 H1 rds rs st q => ?_⟩
              dsimp only at q
              split at q
              · obtain ⟨v, w', rfl, r1, r2⟩ := rds.two
                exact ⟨v, w', rfl, kk.nx _ _ _ _ (((r.step rs st).set r1).set r2) st q⟩
              · exact q.elim
            · cases h
          | _ => unfold parB parB1 at h; cases h
        | _ => unfold parB parB1 at h; cases h
  | _ => dsimp only at h; cases h
theorem s_par3S (gd : GoodS T k g X c ex S0 H0) (hz : c.hot = false) {i j l : Nat} {a b d : E} {tgs : List Expr} {x : Expr} {pos : Pos} (h : par3B c i j l a b d tgs x = true) : PS X (.Assign tgs x pos) (RSt g S0 H0 (wS T (.par3 i j l a b d) ex)) := by
  unfold par3B at h
  split at h
  · rename_i ts n1 p1 vs n2 p2
    unfold par3B2 at h
    split at h
    · rename_i x px y py z pz a' b' d'
      simp only [Bool.and_eq_true, beq_iff_eq, Bool.not_eq_true', beq_eq_false_iff_ne] at h
      obtain ⟨⟨⟨⟨⟨⟨⟨⟨⟨⟨⟨⟨⟨⟨⟨⟨h1, h2⟩, h3⟩, h4⟩, h5⟩, h6⟩, h7⟩, h8⟩, h9⟩, h10⟩, h11⟩, h12⟩, h13⟩, h14⟩, h15⟩, h16⟩, h17⟩ := h
      have hp : swappedStores [.Tuple [.Name x px, .Name y py, .Name z pz] n1 p1] (.Tuple [a', b', d'] n2 p2) X.env = pure (some [x, y, z]) := by
        rw [st_some gd.fk gd.sc h16, h17]
      have ha := s_cons (sE a a' c h10 g X ex S0 H0 gd.toGood).1 (s_cons (sE b b' c h11 g X ex S0 H0 gd.toGood).1 (s_cons (sE d d' c h12 g X ex S0 H0 gd.toGood).1 s_nil h15) h14) h13
      refine (ps_par3 (pos := pos) (gd.calm hz) gd.nd (by rw [gd.N]; exact h1) (by rw [gd.N]; exact h2) (by rw [gd.N]; exact h3) h4 h5 h6 (by rw [gd.sc]; exact h7) (by rw [gd.sc]; exact h8) (by rw [gd.sc]; exact h9) ha hp rfl).imp fun D σ H q => ?_
      obtain ⟨ρ, S, N, r, hw, kk⟩ := q
      unfold wS at hw
      refine ⟨ρ, S, fun ds S2 => match ds with | [d1, d2, d3] => N.nx (((ρ.set i (some d1)).set j (some d2)).set l (some d3)) S2 | _ => False, r, hw, fun us ds S1 H1 rds rs st q => ?_⟩
      dsimp only at q
      split at q
      · unfold RDs at rds
        obtain ⟨v, r1, rfl, rd1, rds⟩ := rds
        obtain ⟨v2, v3, rfl, rd2, rd3⟩ := rds.two
        exact ⟨v, v2, v3, rfl, kk.nx _ _ _ _ ((((r.step rs st).set rd1).set rd2).set rd3) st q⟩
      · exact q.elim
    · cases h
  · cases h
theorem Rl.re {S S' : Sto} {H H' : Hp} {ρ : Sl} {σ : L2.St} (r : Rl g S H ρ S' σ H') (st : Step S0 H0 S H) : Rl g S0 H0 ρ S' σ H' := ⟨r.len, r.sl, r.rs, st.trans r.st⟩
theorem Rl.unset {S : Sto} {H : Hp} {ρ : Sl} {σ : L2.St} {i : Nat} (r : Rl g S0 H0 ρ S σ H) : Rl g S0 H0 (ρ.set i none) S (σ.set i none) H := by
  refine ⟨by rw [List.length_set, List.length_set]; exact r.len, fun j d e => ?_, r.rs, r.st⟩
  by_cases hj : i = j
  · subst hj
    by_cases hl : i < ρ.length
    · rw [List.getElem?_set_self hl] at e; cases e
    · rw [List.getElem?_eq_none (by rw [List.length_set]; omega)] at e; cases e
  · rw [List.getElem?_set_ne hj] at e ⊢
    exact r.sl j d e
theorem exm_any {cc : Addr} {C' : Str} (gd : Good T k g X c ex S0 H0) (hc : g.mg C' = some (.ref cc)) : ∀ {Cs : List Str} {us : List Value} {b : Bool}, Paired (fun y u => nmV g.mg y u) Cs us → xsAny T Cs C' = some b → PySem.W.exmAny g.K (.ref cc) us = some b
  | _, _, _, .nil, h => by unfold xsAny at h; cases h; rfl
  | _, _, _, .cons (a := y) (b := u) h1 hr, h => by
    unfold xsAny at h
    split at h
    · rename_i a b e1 e2
      cases h
      obtain ⟨cc', u', hc', E, hu', exm, _⟩ := gd.ge.xsb C' y a e1
      rw [hc] at hc'
      obtain rfl : cc = cc' := Value.ref.inj (Option.some.inj hc')
      rw [nm_one hu' h1] at exm
      unfold PySem.W.exmAny
      rw [exm, exm_any gd hc hr e2]
    · cases h
theorem s_nms (gd : Good T k g X c ex S0 H0) : ∀ {Cs : List Str} {ys : List Expr}, mNs c Cs ys = true → (∀ C ∈ Cs, ∃ C0 b0, T.xs C0 C = some b0) → ∃ us, Paired (fun y u => nmV g.mg y u) Cs us ∧ NmsOk X ys us ∧ us.length = Cs.length
  | [], [], _, _ => ⟨[], .nil, .nil, rfl⟩
  | [], _ :: _, h, _ => nomatch (show false = true from h)
  | _ :: _, [], h, _ => nomatch (show false = true from h)
  | C :: Cs, e :: ys, h, hx => by
    obtain ⟨y, p, rfl⟩ : ∃ y p, e = .Name y p := by
      cases e with
      | Name y p => exact ⟨y, p, rfl⟩
      | _ => exact nomatch (show false = true from h)
    unfold mNs at h
    simp only [Bool.and_eq_true, beq_iff_eq, Bool.not_eq_true'] at h
    obtain ⟨⟨⟨rfl, hy⟩, hyd⟩, h⟩ := h
    obtain ⟨C0, b0, h0⟩ := hx C (List.mem_cons_self ..)
    obtain ⟨_, u, _, _, hu, _, _⟩ := gd.ge.xsb C0 C b0 h0
    obtain ⟨us, i1, i2, i3⟩ := s_nms gd h fun C' hC => hx C' (List.mem_cons_of_mem _ hC)
    have nm : Names X C u := by
      refine ⟨gd.gl hy, hyd, ?_⟩
      rcases hu with ⟨a, rfl, hu⟩ | ⟨n, rfl, h1, h2, h3⟩
      · exact .inl (by rw [gd.gm]; exact hu)
      · exact .inr ⟨by rw [gd.gm]; exact h1, h2, h3⟩
    exact ⟨u :: us, .cons hu i1, .cons nm i2, by rw [List.length_cons, List.length_cons, i3]⟩
theorem s_clause (gd : GoodS T k g X c ex S0 H0) {Cs : List Str} {t : Expr} (h : clB c Cs t = true) (hx : ∀ C ∈ Cs, ∃ C0 b0, T.xs C0 C = some b0) : ∃ us, Paired (fun y u => nmV g.mg y u) Cs us ∧ Clause X t us := by
  unfold clB at h
  split at h
  · rename_i y p
    obtain ⟨us, i1, i2, i3⟩ := s_nms gd.toGood h hx
    refine ⟨us, i1, ?_⟩
    cases i2 with
    | cons hn r =>
      cases r
      exact .inl ⟨_, _, _, rfl, rfl, hn⟩
  · rename_i ys n p
    obtain ⟨h1, h2⟩ := ands h
    obtain ⟨us, i1, i2, i3⟩ := s_nms gd.toGood h1 hx
    refine ⟨us, i1, .inr ⟨ys, n, p, rfl, ?_, i2⟩⟩
    rw [i3]
    simpa using h2
  · cases h
theorem s_as (gd : GoodS T k g X c ex S0 H0) {i : Option Nat} {nm : Option Str} (h : asB c i nm = true) : AsOk X i nm := by
  unfold asB at h
  split at h
  · trivial
  · obtain ⟨h1, h2⟩ := ands h
    refine ⟨by rw [gd.N]; simpa using h1, ?_⟩
    show List.lookup _ X.env.scope.names = _
    rw [gd.sc]
    exact beq_iff_eq.mp h2
  · cases h
theorem s_raise (gd : GoodS T k g X c ex S0 H0) (hz : c.hot = false) {C : Str} {es : Es} {es' : List Expr} {p p2 pos : Pos} (hg : glB (c.kd C) = true) (hd : (C == dbg) = false) (hn : es'.all noStar = true) (ha : PA X es' (RA g S0 H0 (wEs T es ex))) (h0 : es' = [] → wEs T es ex = fun _ S Q => Q [] S) :
    PS X (.Raise (some (.Call (.Name C p) es' [] p2)) none pos) (RSt g S0 H0 (wS T (.raise C es) ex)) := by
  refine ⟨fun pins s σ H D I h => ?_⟩
  obtain ⟨ρ, S, N, r, hw, kk⟩ := h
  unfold wS at hw
  obtain ⟨f, sb, hx, hw⟩ := hw
  obtain ⟨cc, fI, B, newId, initId, tl, fd, ps, hm, O, iC, tI, bd, F, _, _⟩ := gd.ge.xcs C f sb hx
  have e1 : X.K = g.K := gd.gK
  have e2 : X.mg = g.mg := gd.gm
  rw [← e1] at O iC tI bd F
  rw [← e2] at F
  have pm : L2N.PMk X (.Call (.Name C p) es' [] p2) (tMkX cc f sb (RA g S0 H0 (wEs T es ex))) := by
    refine pmk_x O iC tI F gd.gds ⟨fun z => (by cases z), gd.room.dp, gd.room.un⟩ (gd.room.hd hz) bd (fun σ pins H s e s' I ⟨_, _, _, _, _, _, _, _, _, _, _, _, z⟩ => z.elim) (gd.gl hg) (by rw [e2]; exact hm) hd ha (fun e σ H Q ⟨ρ, S, Qd, r, q, kk⟩ => ?_) fun e r' er => ?_
    · rw [h0 e] at q
      exact kk [] [] S H RDs.nil r.rs (Step.refl S H) q
    · subst er
      rw [List.all_cons, Bool.and_eq_true] at hn
      exact ⟨star_cons hn.1, fun pos => star_any hn.2⟩
  refine (L2N.ps_raise (gd.calm hz) gd.tk pm).run pins s σ H D I ?_
  refine ⟨ρ, S, _, r, hw, fun vs ds S1 H1 rds rs1 st1 q1 => ?_⟩
  have r1 := r.step rs1 st1
  cases f with
  | some f =>
    match ds, q1, rds with
    | [d], q1, rds =>
      obtain ⟨v, rfl, rd⟩ := rds.one
      refine ⟨v, rfl, fun e => ?_, fun dx hdx => ?_⟩
      · rcases q1.1 e with ⟨z, rfl, hz⟩ | ⟨i, rfl, hi⟩
        · exact .inl ⟨_, rd.ofStr.1, by rw [mkS_len]; exact hz⟩
        · exact .inr ⟨i, rd.ofInt, hi⟩
      · have fz := rs1.frozen (o := .xd [(f, v)]) hdx
        exact ⟨ρ, S1, ⟨C, [f], [d]⟩, r1.step fz.1 fz.2, ⟨cc, [v], hm, rfl, rfl, RDs.mono fz.2 _ _ (RDs.cons rd RDs.nil), .inr ⟨dx, rfl, rs1.free hdx, rs1.fresh hdx, upd_same⟩⟩, q1.2⟩
    | [], q1, _ => exact q1.elim
    | _ :: _ :: _, q1, _ => exact q1.elim
  | none =>
    match ds, q1, rds with
    | [], q1, rds =>
      unfold RDs at rds
      subst rds
      exact ⟨rfl, ρ, S1, ⟨C, [], []⟩, r1, ⟨cc, [], hm, rfl, rfl, RDs.nil, .inl ⟨rfl, rfl⟩⟩, q1⟩
    | _ :: _, q1, _ => exact q1.elim
mutual
theorem sS {X : Cx} {c : Sc} {ex : QE} {S0 : Sto} {H0 : Hp} (gd : GoodS T k g X c ex S0 H0) : ∀ (s : St) (x : Stmt), mS c s x = true → PS X x (RSt g S0 H0 (wS T s ex))
  | .expr e, x, h => by
    cases x with
    | Expr x pos =>
      obtain ⟨h1, h2⟩ := ands h
      refine (ps_expr (sE e x c h1 g X ex S0 H0 gd.toGood).1 (sw_none h2)).imp fun D σ H q => ?_
      obtain ⟨ρ, S, N, r, hw, kk⟩ := q
      unfold wS at hw
      exact ⟨ρ, S, _, r, hw, fun v d S1 H1 rd rs st q => kk.nx _ _ _ _ (r.step rs st) st q⟩
    | _ => exact nomatch (show false = true from h)
  | .ret e, x, h => by
    cases x with
    | Return x pos =>
      cases x with
      | none => exact nomatch (show false = true from h)
      | some x =>
        refine (ps_ret (sE e x c h g X ex S0 H0 gd.toGood).1).imp fun D σ H q => ?_
        obtain ⟨ρ, S, N, r, hw, kk⟩ := q
        unfold wS at hw
        exact ⟨ρ, S, _, r, hw, fun v d S1 H1 rd rs st q => kk.rt _ _ _ _ rd rs st q⟩
    | _ => exact nomatch (show false = true from h)
  | .retN, x, h => by
    cases x with
    | Return x pos =>
      cases x with
      | some x => exact nomatch (show false = true from h)
      | none =>
        refine ps_retN.imp fun D σ H q => ?_
        obtain ⟨ρ, S, N, r, hw, kk⟩ := q
        unfold wS at hw
        exact kk.rt _ _ _ _ rd_non r.rs (Step.refl S H) hw
    | _ => exact nomatch (show false = true from h)
  | .pass, x, h => by
    cases x with
    | Pass pos =>
      refine ps_pass.imp fun D σ H q => ?_
      obtain ⟨ρ, S, N, r, hw, kk⟩ := q
      unfold wS at hw
      exact kk.nx _ _ _ _ r (Step.refl S H) hw
    | _ => exact nomatch (show false = true from h)
  | .brk, x, h => by
    cases x with
    | Break pos =>
      refine ps_break.imp fun D σ H q => ?_
      obtain ⟨ρ, S, N, r, hw, kk⟩ := q
      unfold wS at hw
      exact kk.bk _ _ _ _ r (Step.refl S H) hw
    | _ => exact nomatch (show false = true from h)
  | .cont, x, h => by
    cases x with
    | Continue pos =>
      refine ps_continue.imp fun D σ H q => ?_
      obtain ⟨ρ, S, N, r, hw, kk⟩ := q
      unfold wS at hw
      exact kk.ct _ _ _ _ r (Step.refl S H) hw
    | _ => exact nomatch (show false = true from h)
  | .asg t e, x, h => by
    cases x with
    | Assign tgs x pos =>
      cases tgs with
      | nil => exact nomatch (show false = true from h)
      | cons tg tgs =>
        cases tgs with
        | cons _ _ => exact nomatch (show false = true from h)
        | nil =>
          replace h : asgB c t e [tg] x = true := h
          unfold asgB at h
          obtain ⟨h, h3⟩ := ands h
          obtain ⟨h1, h2⟩ := ands h
          have hst := mL_star h1
          have hg := sL gd.toGood t tg h1
          have fin : ∀ (te : TE), (∀ σ H Q, RE g S0 H0 (wX T e ex).v σ H Q → te σ H Q) → ∀ D σ H, RSt g S0 H0 (wS T (.asg t e) ex) D σ H → tAsg te (RLd g S0 H0 (wL T ex t)) D σ H := by
            intro te hte D σ H q
            obtain ⟨ρ, S, N, r, hw, kk⟩ := q
            unfold wS at hw
            exact hte σ H _ ⟨ρ, S, _, r, hw, fun v d S1 H1 rd rs st q => ⟨d, ρ, S1, _, rd, r.step rs st, q, fun ρ2 S2 σ2 H2 r2 st2 q2 => kk.nx _ _ _ _ r2 (st.trans st2) q2⟩⟩
          cases hsw : swB c x tg with
          | false =>
            rw [hsw] at h3
            simp only [Bool.not_false, Bool.true_and, Bool.false_and, Bool.or_false] at h3
            refine (ps_asg (sE e x c h2 g X ex S0 H0 gd.toGood).1 hg ?_ (st_none gd.fk gd.sc h3) (asg1 hst)).imp fun D σ H q => fin _ (fun _ _ _ q => q) D σ H q
            show swapsWith x (some tg) pos.line X.env = pure false
            rw [sw_ok gd.fk gd.sc, hsw]
          | true =>
            rw [hsw] at h3
            simp only [Bool.not_true, Bool.false_and, Bool.true_and, Bool.false_or] at h3
            obtain ⟨hz9, h3⟩ := ands h3
            obtain ⟨h3, h4⟩ := ands h3
            cases t with
            | name i =>
              cases x with
              | ListComp elt' gs scope p2 =>
                cases tg with
                | Name y py =>
                  have hsw' : swapsWith (.ListComp elt' gs scope p2) (some (.Name y py)) pos.line X.env = pure true := by rw [sw_ok gd.fk gd.sc, hsw]
                  cases e with
                  | bad => exact ⟨fun pins s σ H D I q => by
                      obtain ⟨_, _, _, _, z, _⟩ := q
                      unfold wS wX at z
                      exact z.elim⟩
                  | lc fz elt tgc it ifs =>
                    have hzz : c.hot = false := hot_no hz9
                    obtain ⟨tg', it', ifs', wi, gt, tt, te, own, rfl, hi, ok, hgc, ht, he, hs, rd⟩ := lc_parts h2 (fun x c h => sE elt x c h) (fun x tg c h => sI it x tg c h) (fun x tg c h => sIB it x tg c h) (fun x c h => sQ ifs x c h) g X ex S0 H0 gd.toGood
                    unfold mL at h1
                    obtain ⟨n1, n2⟩ := ands h1
                    have hy : X.N[i]? = some y := by rw [gd.N]; simpa using n1
                    have hyl : X.env.scope.names.lookup y = some .local := by
                      rw [gd.sc]
                      unfold swB swN at hsw
                      obtain ⟨z, _⟩ := ands hsw
                      obtain ⟨z, _⟩ := ands z
                      exact (beq_iff_eq.mp z)
                    refine (ps_setLc (i := i) (spos := pos) (gd.calm hzz) gd.nd hy hyl hsw' (hi.1 hzz) ok hgc ht he hs).imp fun D σ H q => ?_
                    obtain ⟨ρ, S, N, r, hw, kk⟩ := q
                    unfold wS at hw
                    refine rd.1 σ H _ ⟨ρ, S, _, r, hw, fun v d S1 H1 rd1 rs st q => ?_⟩
                    unfold wL at q
                    exact kk.nx _ _ _ _ ((r.step rs st).set rd1) st q
                  | _ => unfold mE at h2; cases h2
                | _ => unfold mL at h1; cases h1
              | DictComp kx' vx' gs scope p2 =>
                cases tg with
                | Name y py =>
                  have hsw' : swapsWith (.DictComp kx' vx' gs scope p2) (some (.Name y py)) pos.line X.env = pure true := by rw [sw_ok gd.fk gd.sc, hsw]
                  cases e with
                  | bad => exact ⟨fun pins s σ H D I q => by
                      obtain ⟨_, _, _, _, z, _⟩ := q
                      unfold wS wX at z
                      exact z.elim⟩
                  | dc fz kx vx tgc it ifs =>
                    have z := (dc_sound h2 (fun x c h => sE kx x c h) (fun x c h => sE vx x c h) (fun x tg c h => sI it x tg c h) (fun x c h => sQ ifs x c h) g X ex S0 H0 gd.toGood).2
                    unfold mL at h1
                    obtain ⟨n1, n2⟩ := ands h1
                    have hy : X.N[i]? = some y := by rw [gd.N]; simpa using n1
                    have hyl : X.env.scope.names.lookup y = some .local := by
                      rw [gd.sc]
                      unfold swB swN at hsw
                      obtain ⟨z, _⟩ := ands hsw
                      obtain ⟨z, _⟩ := ands z
                      exact (beq_iff_eq.mp z)
                    refine (z i y py pos hy hyl hsw').imp fun D σ H q => ?_
                    obtain ⟨ρ, S, N, r, hw, kk⟩ := q
                    unfold wS at hw
                    refine ⟨ρ, S, _, r, hw, fun v d S1 H1 rd1 rs st q => ?_⟩
                    unfold wL at q
                    exact kk.nx _ _ _ _ ((r.step rs st).set rd1) st q
                  | _ => unfold mE at h2; cases h2
                | _ => unfold mL at h1; cases h1
              | _ => cases h4
            | _ => cases h3
    | _ => exact nomatch (show false = true from h)
  | .par i j a b, x, h => by
    cases x with
    | Assign tgs x pos =>
      obtain ⟨h1, hz⟩ := ands h
      exact s_parS gd (hot_no hz) (x := .Assign tgs x pos) h1
    | _ => exact nomatch (show false = true from h)
  | .par3 i j l a b d, x, h => by
    cases x with
    | Assign tgs x pos =>
      obtain ⟨h1, hz⟩ := ands h
      exact s_par3S gd (hot_no hz) h1
    | _ => exact nomatch (show false = true from h)
  | .ife t a b, x, h => by
    cases x with
    | If t' a' b' pos =>
      obtain ⟨h, h3⟩ := ands h
      obtain ⟨h1, h2⟩ := ands h
      refine (ps_if (sE t t' c h1 g X ex S0 H0 gd.toGood).2 (sSs gd a a' h2) (sSs gd b b' h3)).imp fun D σ H q => ?_
      obtain ⟨ρ, S, N, r, hw, kk⟩ := q
      unfold wS at hw
      refine ⟨ρ, S, _, r, hw, fun bb S1 H1 rs st q => ?_⟩
      cases bb with
      | true => exact ⟨ρ, S1, N, r.step rs st, q, kk.from st⟩
      | false => exact ⟨ρ, S1, N, r.step rs st, q, kk.from st⟩
    | _ => exact nomatch (show false = true from h)
  | .for t it b, x, h => by
    cases x with
    | For t' it' b' els pos =>
      cases els with
      | cons _ _ => exact nomatch (show false = true from h)
      | nil =>
        obtain ⟨h, hz⟩ := ands h
        obtain ⟨h, h4⟩ := ands h
        obtain ⟨h, h3⟩ := ands h
        obtain ⟨h1, h2⟩ := ands h
        have hs : ∀ x, foldedSetIterable it' X.env x = pure x := by
          intro x
          cases it' <;> first | rfl | cases h2
        refine (ps_for gd.po (gd.calm (hot_no hz)) (sI it it' t' c h1 g X ex S0 H0 gd.toGood) (sG gd.toGood t t' h3) (sSs gd b b' h4) hs).imp fun D σ H q => for_read ?_
        obtain ⟨ρ, S, N, r, hw, kk⟩ := q
        unfold wS at hw
        exact ⟨ρ, S, N, r, hw, kk⟩
    | _ => exact nomatch (show false = true from h)
  | .bad, x, h => ⟨fun pins s σ H D I q => by
    obtain ⟨_, _, _, _, z, _⟩ := q
    unfold wS at z
    exact z.elim⟩
  | .whl t b, x, h => by
    cases x with
    | While t' b' els pos =>
      cases els with
      | cons _ _ => exact nomatch (show false = true from h)
      | nil =>
        obtain ⟨h, hz⟩ := ands h
        obtain ⟨h1, h2⟩ := ands h
        refine (ps_while gd.po (sE t t' c h1 g X ex S0 H0 gd.toGood).2 (sSs gd b b' h2)).imp fun D σ H q => while_read ?_
        obtain ⟨ρ, S, N, r, hw, kk⟩ := q
        unfold wS at hw
        exact ⟨ρ, S, N, r, hw, kk⟩
    | _ => exact nomatch (show false = true from h)
  | .raise C es, x, h => by
    cases x with
    | Raise e fr pos =>
      cases e with
      | none => exact nomatch (show false = true from h)
      | some e =>
        cases e with
        | Call fx es' ks p2 =>
          cases fx with
          | Name x p =>
            cases ks with
            | cons _ _ => exact nomatch (show false = true from h)
            | nil =>
              cases fr with
              | some _ => exact nomatch (show false = true from h)
              | none =>
                obtain ⟨h, hz⟩ := ands h
                obtain ⟨h, h4⟩ := ands h
                obtain ⟨h, h3⟩ := ands h
                obtain ⟨h1, h2⟩ := ands h
                rw [beq_iff_eq] at h1
                subst h1
                obtain ⟨a1, a2⟩ := sEs es es' c h4
                exact s_raise gd (hot_no hz) h2 (ne_dbg h3) a1 (a2 g X ex S0 H0 gd.toGood).1 (a2 g X ex S0 H0 gd.toGood).2
          | _ => exact nomatch (show false = true from h)
        | _ => exact nomatch (show false = true from h)
    | _ => exact nomatch (show false = true from h)
  | .tri b hd, x, h => by
    cases x with
    | Try b' hs els fin pos =>
      cases els with
      | cons _ _ => exact nomatch (show false = true from h)
      | nil =>
        cases fin with
        | cons _ _ => exact nomatch (show false = true from h)
        | nil =>
          obtain ⟨h, h4⟩ := ands h
          obtain ⟨h, h3⟩ := ands h
          obtain ⟨hz, h2⟩ := ands h
          cases hs with
          | nil => cases h4
          | cons h0 hs =>
            refine ⟨fun pins s σ H D I q => ?_⟩
            obtain ⟨ρ, S, N, r, hw, kk⟩ := q
            unfold wS at hw
            obtain ⟨hn, hw⟩ := hw
            obtain ⟨l, cl, hl⟩ := sH gd hd (h0 :: hs) h3 hn
            refine (ps_tryX (tb := fun W D σ H => ∃ S ex', (∀ cc d σ' H', WT g ex' S H cc d σ' H' → W cc d σ' H') ∧ RSt g S H (wSs T b ex') D σ H) gd.stk gd.fr gd.noex gd.nd gd.tk (fun W pn xe tk po => ⟨fun pins s σ H D I ⟨S, ex', hW, q⟩ => ?_⟩) cl).run pins s σ H D I ?_
            · have gd' : GoodS T k g (X.tr pn xe) c ex' S H := { gK := gd.gK, gm := gd.gm, N := gd.N, sc := gd.sc, fnk := gd.fnk, nd := gd.nd, calm := gd.calm, room := gd.room, gds := gd.gds, ge := gd.ge, hotc := (fun z => by rw [hot_no hz] at z; cases z), tk := tk.imp hW, fk := gd.fk, po := po, stk := gd.stk, fr := gd.fr, noex := gd.noex }
              exact (sSs gd' b b' h2).run pins s σ H D I q
            · exact ⟨S, _, fun cc d σ' H' w => hl D N S H kk r.st cc d σ' H' w, ρ, S, N, ⟨r.len, r.sl, r.rs, Step.refl S H⟩, hw, ⟨fun ρ' S' σ' H' r' st' q' => kk.nx _ _ _ _ (r'.re r.st) st' q', kk.rt, fun ρ' S' σ' H' r' st' q' => kk.bk _ _ _ _ (r'.re r.st) st' q', fun ρ' S' σ' H' r' st' q' => kk.ct _ _ _ _ (r'.re r.st) st' q'⟩⟩
    | _ => exact nomatch (show false = true from h)
theorem sH {X : Cx} {c : Sc} {ex : QE} {S0 : Sto} {H0 : Hp} (gd : GoodS T k g X c ex S0 H0) : ∀ (h : Hs) (hs : List ExceptHandler), mH c h hs = true → (∀ C ∈ hsCs h, ∃ C0 b0, T.xs C0 C = some b0) →
    ∃ l, ClOk X hs l ∧ ∀ (D : Ends) (N : Nd) (S : Sto) (H : Hp), CN g S0 H0 S H N D → Step S0 H0 S H → ∀ cc d σ1 H1, WT g (fun ρ1 e S1 => wHs T h ex ρ1 e S1 N) S H cc d σ1 H1 → wCl X.K (WT g ex S0 H0) D l cc d σ1 H1
  | .nil, hs, h, _ => by
    cases hs with
    | cons _ _ => unfold mH at h; cases h
    | nil =>
      refine ⟨[], .nil, fun D N S H kk st cc d σ1 H1 ⟨ρ1, S1, e, r1, rx, hw⟩ => ?_⟩
      unfold wHs at hw
      exact ⟨ρ1, S1, e, r1.re st, rx, hw⟩
  | .cons cs i b r, hs, h, hn => by
    cases hs with
    | nil => unfold mH at h; cases h
    | cons h0 hs =>
      obtain ⟨t, nm, suite, pos⟩ := h0
      cases t with
      | none => unfold mH at h; cases h
      | some t =>
        unfold mH at h
        obtain ⟨h, h5⟩ := ands h
        obtain ⟨h, h4⟩ := ands h
        obtain ⟨h, h3⟩ := ands h
        obtain ⟨h1, h2⟩ := ands h
        cases suite with
        | nil => cases h3
        | cons b0 suite =>
          obtain ⟨l, cl, hl⟩ := sH gd r hs h5 fun C hC => hn C (by unfold hsCs; exact List.mem_append_right _ hC)
          obtain ⟨us, pu, hcl⟩ := s_clause gd h1 fun C hC => hn C (by unfold hsCs; exact List.mem_append_left _ hC)
          have hsu : ∀ (a : Addr) (pn : List (Addr × Obj)), PSs (X.suite a pn) (b0 :: suite) (fun D σ H => ∃ S1 c1 d1, H a = some (exT a c1 d1) ∧ S1 a = none ∧ RSt g S1 H (wSs T b fun _ _ _ => False) D σ H) := fun a pn => ⟨fun pins s σ H D I ⟨S1, c1, d1, e1, e2, q⟩ => by
            have tk0 : L2N.Takes (X.suite a pn) (WT g (fun _ _ _ => False) S1 H) := fun u s' ⟨_, _, _, _, _, _, _, _, _, _, _, _, _, _, _, _, w⟩ => by
              obtain ⟨_, _, _, _, _, z⟩ := w
              exact z.elim
            have gd' : GoodS T k g (X.suite a pn) { c with hot := true } (fun _ _ _ => False) S1 H := { gK := gd.gK, gm := gd.gm, N := gd.N, sc := gd.sc, fnk := gd.fnk, nd := gd.nd, calm := (fun z => by cases z), room := ⟨(fun z => by cases z), gd.room.dp, gd.room.un⟩, gds := gd.gds, ge := gd.ge, hotc := (fun _ _ => .inr ⟨a, c1, d1, rfl, e1, e2⟩), fk := gd.fk, po := PassesOwn.never, stk := gd.stk, fr := gd.fr, noex := gd.noex, tk := tk0 }
            exact (sSs gd' b (b0 :: suite) h4).run pins s σ H D I q⟩
          refine ⟨(us, i, fun a D σ H => ∃ S1 c1 d1, H a = some (exT a c1 d1) ∧ S1 a = none ∧ RSt g S1 H (wSs T b fun _ _ _ => False) D σ H) :: l, .cons hcl (s_as gd h2) hsu cl, fun D N S H kk st cc d σ1 H1 ⟨ρ1, S1, e, r1, rx, hw⟩ => ?_⟩
          unfold wHs at hw
          obtain ⟨kb, hx, hw⟩ := hw
          obtain ⟨c', vs, hm, rfl, hlen, rds, z⟩ := rx
          refine ⟨kb, gd.gK ▸ exm_any gd.toGood hm pu hx, fun e1 => ?_, fun e1 => ?_⟩
          · rw [if_pos e1] at hw
            refine ⟨c', rfl, fun a na => ?_⟩
            have fz := r1.rs.frozen (o := exT a c' d) na
            have r2 := (r1.re st).step fz.1 fz.2
            have rd : RD g S1 (upd H1 a (exT a c' d)) (.exn e.cls e.ns e.vs) (.ref a) := by
              unfold RD
              refine ⟨a, c', d, vs, rfl, ⟨r1.rs.free na, r1.rs.fresh na, upd_same⟩, hm, hlen, RDs.mono fz.2 _ _ rds, ?_⟩
              rcases z with z | ⟨dx, z1, z2, z3, z4⟩
              · exact .inl z
              · exact .inr ⟨dx, z1, z2, z3, by rw [upd_ne (ne_of_none z4 na)]; exact z4⟩
            have st2 : Step S H S1 (upd H1 a (exT a c' d)) := r1.st.trans fz.2
            cases i with
            | none => exact ⟨S1, c', d, upd_same, r1.rs.free na, ρ1, S1, _, ⟨r2.len, r2.sl, r2.rs, Step.refl _ _⟩, hw, ⟨fun ρ' S' σ' H' r' st' q' => kk.nx _ _ _ _ (r'.re r2.st) (st2.trans st') q', fun v d S' H' rd' rs' st' q' => kk.rt _ _ _ _ rd' rs' (st2.trans st') q', fun ρ' S' σ' H' r' st' q' => kk.bk _ _ _ _ (r'.re r2.st) (st2.trans st') q', fun ρ' S' σ' H' r' st' q' => kk.ct _ _ _ _ (r'.re r2.st) (st2.trans st') q'⟩⟩
            | some i =>
              have r3 := r2.set (i := i) rd
              exact ⟨S1, c', d, upd_same, r1.rs.free na, _, S1, _, ⟨r3.len, r3.sl, r3.rs, Step.refl _ _⟩, hw, ⟨fun ρ' S' σ' H' r' st' q' => kk.nx _ _ _ _ (r'.re r2.st).unset (st2.trans st') q', fun v d S' H' rd' rs' st' q' => kk.rt _ _ _ _ rd' rs' (st2.trans st') q', fun ρ' S' σ' H' r' st' q' => kk.bk _ _ _ _ (r'.re r2.st).unset (st2.trans st') q', fun ρ' S' σ' H' r' st' q' => kk.ct _ _ _ _ (r'.re r2.st).unset (st2.trans st') q'⟩⟩
          · rw [e1, if_neg Bool.false_ne_true] at hw
            exact hl D N S H kk st _ d σ1 H1 ⟨ρ1, S1, e, r1, ⟨c', vs, hm, rfl, hlen, rds, z⟩, hw⟩
theorem sSs {X : Cx} {c : Sc} {ex : QE} {S0 : Sto} {H0 : Hp} (gd : GoodS T k g X c ex S0 H0) : ∀ (s : Ss) (xs : List Stmt), mSs c s xs = true → PSs X xs (RSt g S0 H0 (wSs T s ex))
  | .nil, xs, h => by
    cases xs with
    | nil =>
      refine pss_nil.imp fun D σ H q => ?_
      obtain ⟨ρ, S, N, r, hw, kk⟩ := q
      unfold wSs at hw
      exact kk.nx _ _ _ _ r (Step.refl S H) hw
    | cons _ _ => unfold mSs at h; cases h
  | .cons s r, xs, h => by
    cases xs with
    | nil => unfold mSs at h; cases h
    | cons x xs =>
      unfold mSs at h
      obtain ⟨h1, h2⟩ := ands h
      refine (pss_cons (sS gd s x h1) (sSs gd r xs h2)).imp fun D σ H q => ?_
      obtain ⟨ρ, S, N, rr, hw, kk⟩ := q
      unfold wSs at hw
      exact ⟨ρ, S, _, rr, hw, ⟨fun ρ1 S1 σ1 H1 r1 st1 q1 => ⟨ρ1, S1, N, r1, q1, kk.from st1⟩, kk.rt, kk.bk, kk.ct⟩⟩
end
end
/-! ### a def -/
def scN (N ps : List Str) (sc : Scope) : Bool := (match sc.kind with | .function => true | _ => false) && !sc.isCoroutine && !sc.isGenerator && decide N.Nodup && decide (N.take ps.length = ps) && (ps.all fun x => locB (sc.names.lookup x)) && (sc.names.all fun y => match y.2 with | .free => false | _ => true)
theorem scope_ok {N ps : List Str} {sc : Scope} (h : scN N ps sc = true) : FnScope N ps sc := by
  unfold scN at h
  obtain ⟨h, h7⟩ := ands h
  obtain ⟨h, h6⟩ := ands h
  obtain ⟨h, h5⟩ := ands h
  obtain ⟨h, h4⟩ := ands h
  obtain ⟨h, h3⟩ := ands h
  obtain ⟨h1, h2⟩ := ands h
  refine ⟨?_, by simpa using h2, by simpa using h3, of_decide_eq_true h4, of_decide_eq_true h5, fun x hx => ?_, fun y hy e => ?_⟩
  · split at h1
    · assumption
    · cases h1
  · have := List.all_eq_true.mp h6 x hx
    unfold locB at this
    split at this <;> first | exact .inl (by assumption) | exact .inr (by assumption) | cases this
  · have := List.all_eq_true.mp h7 y hy
    rw [e] at this
    cases this
/-- what a def's text must be: its names, its body -/
def defOk (hot : Bool) (N ps : List Str) (b : Ss) (st : Stmt) : Bool := scN N ps (defScope st) && mSs ⟨N, defScope st, fun _ => true, hot, false⟩ b (defBody st)
section
variable {T : Tab} {k : Nat} {P : Program} {w : World} {K : PySem.W.Frag} {mg : Str → Option Value} {base : Heap}
theorem sub_step {S S2 : Sto} {H : Hp} (sb : Sub S2 S) : Step S H S2 H := fun a o ha hs => ⟨ha, by
  cases e : S2 a with
  | none => rfl
  | some o' => rw [sb a o' e] at hs; cases hs⟩
theorem RX.sub {g : Gx} {S S2 : Sto} {H : Hp} {e : Exn} {c : Value} {d : Option Addr} (h : RX g S H e c d) (sb : Sub S2 S) : RX g S2 H e c d := by
  obtain ⟨C, vs, h1, h2, h3, h4, h5⟩ := h
  refine ⟨C, vs, h1, h2, h3, RDs.mono (sub_step sb) _ _ h4, ?_⟩
  rcases h5 with z | ⟨dx, z1, z2, z3, z4⟩
  · exact .inl z
  · exact .inr ⟨dx, z1, (sub_step sb dx _ z4 z2).2, z3, z4⟩
theorem RS.noext {g : Gx} {S : Sto} {H : Hp} {a c : Addr} {d : Option Addr} (rs : RS g S H) (h : H a = some (exT a c d)) : S a = none := by
  cases e : S a with
  | none => rfl
  | some o =>
    have q := (rs.1 a o e).2
    cases o with
    | lst xs => obtain ⟨vs, h1, _⟩ := q; rw [h] at h1; cases h1
    | ins C fs => obtain ⟨_, _, _, _, h1, _⟩ := q; rw [h] at h1; cases h1
    | dct kvs => obtain ⟨_, h1, _⟩ := q; rw [h] at h1; cases h1
/-- THE DEF: its text matches the small one, what is promised makes the small one run, so the promise is kept -/
theorem fn_ok {hot : Bool} {x qual : Str} {st : Stmt} {f : Addr} {fd : FuncData} {N ps : List Str} {b : Ss} {φ : FSp} (ge : GE T K mg P w base k) (F : ∃ (oc : Value) (od : Option Addr) (dV kV doc pm : Value) (an : Option Addr) (cdv ct : Value) (osl : Array (Option Value)),
      fd = PySem.W.fnOf x qual (defArgs st) (defBody st) (defScope st) dV kV doc pm an cdv ct ∧ K.lookup f = some ⟨oc, od, .func fd, osl⟩ ∧ PySem.W.codeIn K cdv qual = true)
    (hd : defOk hot N ps b st = true) (hl : ∀ ds S Q E, φ ds S Q E → ds.length = ps.length) (hφ : ∀ ds S Q E, φ ds S Q E → wFn T N.length b ds S Q E) : FnG hot P w K mg base (L2N.CX P w) (k + 2) f fd ps (spOf K mg φ) := by
  obtain ⟨oc, od, dV, kV, doc, pm, an, cdv, ct, osl, rfl, lk, hcd⟩ := F
  unfold defOk at hd
  obtain ⟨h1, h2⟩ := ands hd
  have sco := scope_ok h1
  refine fn_g (k := k + 1) lk hcd sco (fun vs H Q E q => ?_) fun A outer s H vs Q E hgd hr hhs hsp => ?_
  · obtain ⟨B, ds, S, Qd, Xd, rds, _, q, _⟩ := q
    rw [← rds.length]
    exact hl ds S Qd Xd q
  · obtain ⟨B, ds, S, Qd, Xd, rds, rs, q, kk, kx⟩ := hsp
    have hlen := hl ds S Qd Xd q
    have gd : GoodS T k ⟨K, mg, B⟩ (cxB hot (L2N.CX P w) P w K mg base N qual (defScope st) f cdv A outer s H E) ⟨N, defScope st, fun _ => true, hot, false⟩ (fun _ e S1 => ∃ S2, Sub S2 S1 ∧ Xd e S2) S H := {
      gK := rfl, gm := rfl, N := rfl, sc := rfl, fnk := rfl, nd := sco.nd, calm := (fun z => by show (!hot) = true; rw [show hot = false from z]; rfl), room := hr, gds := hgd, ge := ge, hotc := (fun z _ => (hhs z).imp id fun ⟨a, c, d, h1, h2⟩ => ⟨a, c, d, h1, h2, rs.noext h2⟩)
      tk := L2N.takes_of (E := E) (E₁ := fun e' s'' => L2N.CX P w outer H s E e' s'') rfl rfl rfl rfl |>.imp fun cls d σ H' ⟨ρ, S', e, r, rx, S2, sb, q'⟩ => kx e cls d S2 H' (rx.sub sb) (r.rs.sub sb) (r.st.trans (sub_step sb)) q'
      stk := rfl
      fr := rfl
      noex := rfl
      fk := sco.kind
      po := passes_of rfl }
    refine ⟨_, sSs gd b (defBody st) h2, ?_⟩
    have hw := hφ ds S Qd Xd q
    unfold wFn at hw
    have hn : ds.length ≤ N.length := by
      rw [hlen]
      have := congrArg List.length sco.pre
      rw [List.length_take] at this
      omega
    refine ⟨_, S, _, ⟨?_, fun i d e => ?_, rs, Step.refl S H⟩, hw, ⟨fun ρ' S' σ' H' r st' ⟨S2, sb, q'⟩ => ?_, fun v d S' H' rd rs' st' ⟨S2, sb, q'⟩ => ?_, fun _ _ _ _ _ _ z => z.elim, fun _ _ _ _ _ _ z => z.elim⟩⟩
    · unfold L2.start
      rw [List.length_append, List.length_append, List.length_map, List.length_map, List.length_replicate, List.length_replicate, rds.length]
    · by_cases hi : i < ds.length
      · rw [List.getElem?_append_left (by rw [List.length_map]; exact hi), List.getElem?_map] at e
        cases hd : ds[i]? with
        | none => rw [hd] at e; cases e
        | some d' =>
          rw [hd] at e
          cases e
          obtain ⟨v, hv, rd⟩ := rds.get i _ hd
          refine ⟨v, ?_, rd⟩
          unfold L2.start
          rw [List.getElem?_append_left (by rw [List.length_map, ← rds.length]; exact hi), List.getElem?_map, hv]
          rfl
      · rw [List.getElem?_append_right (by rw [List.length_map]; omega), List.getElem?_replicate] at e
        split at e <;> cases e
    · have st2 : Step S' H' S2 H' := fun a o ha hs => ⟨ha, by
        cases e : S2 a with
        | none => rfl
        | some o' => rw [sb a o' e] at hs; cases hs⟩
      exact kk .non .non S2 H' rd_non (r.rs.sub sb) (st'.trans st2) q'
    · have st2 : Step S' H' S2 H' := fun a o ha hs => ⟨ha, by
        cases e : S2 a with
        | none => rfl
        | some o' => rw [sb a o' e] at hs; cases hs⟩
      exact kk v d S2 H' (rd.sub sb) (rs'.sub sb) (st'.trans st2) q'
end
end G
/-! GI: the own __init__ of an error's class. -/
namespace G
open PySem PySem.Spec PyProof.Rows L2
/-- B.__init__(self, e), B an own class over a built-in one -/
def tIni (C : Addr) (ta : TA) : TE := fun σ H Q => ta σ H fun vs H1 => ∃ (a : Addr) (ws : List V), vs = .ref a :: ws ∧ ws.length ≤ 1000 ∧ H1 a = some (exo a C none) ∧ Q .non H1
section
variable {X : Cx} {C bc : Addr} {B newId initId : String} {tl : List Value} {e : Expr} {es : List Expr} {ta : TA} {x : Str} {p1 p2 pos : Pos}
theorem pe_ini {pl : Sem Bool} (O : OxC X.K C B newId initId tl) (hg : Gl X x) (hm : X.mg x = some (.ref bc)) (hdb : (x == ("__debug__" : Str)) = false) (rd : PySem.W.readsIn X.K bc (.type "type") = true) (ga : PySem.W.specialIn X.K (.ref bc) "__getattribute__" = some (some (.builtin "type.__getattribute__")))
    (vV : PySem.W.findCls X.K (.ref bc) (.type "type") "__init__" = some (.val (.builtin initId))) (hh : PySem.W.handedIn (.builtin initId) = true) (ha : PA X (e :: es) ta)
    (hc : eval (.Call (.Attribute (.Name x p1) "__init__" p2) (e :: es) [] pos) X.env = (do
      let ov ← eval (.Name x p1) X.env
      standAt p2.atName
      let (f, first) ← holding [ov] (getMethod ov "__init__" pl)
      callWith pos f first (backTo pos (starEach (e :: es) X.env)) (backToKw pos (keywordEach [] X.env))))
    (he : starEach (e :: es) X.env = (false, eval e X.env) :: starEach es X.env) (hpl : (backTo pos (starEach es X.env)).any (·.1) = false) :
    PE X (.Call (.Attribute (.Name x p1) "__init__" p2) (e :: es) [] pos) (tIni C ta) := by
  refine ⟨fun pins s σ H Q I h => ?_⟩
  refine PySem.W.methodCall_KW (ld_glob I hg hm ?_ hdb) hc
  refine PySem.W.method_cls I.kIn ga (PySem.W.cls_value I.kIn rd vV hh ?_)
  show wpAny _ _ (callWith pos (Value.builtin initId) [] (backTo pos (starEach (e :: es) X.env)) []) _ _ _
  refine PyProof.Rows.callWith_method1 (thn (ha.run pos pins _ σ H _ (I.tok _) h) fun us s1 ⟨vs, H1, I1, r1, a, ws, ev, hl, ea, q⟩ => ?_) he hpl
  subst ev
  cases r1 with
  | @cons _ u0 _ ur ra rw' =>
    obtain rfl : u0 = Value.ref a := ra
    exact ox_init O I1 ea (by rw [← Paired.length rw', sizeLine_eq]; omega) fun s' J => ⟨.non, H1, J, rfl, q⟩
/-- self.f = e -/
def tOx (C : Addr) (f : Str) (to te : TE) : TS := fun D σ H => te σ H fun y H1 => to σ H1 fun x H2 => ∃ a : Addr, x = .ref a ∧ H2 a = some (exo a C none) ∧ ∀ dx, H2 dx = none → dx ≠ a → D.nx σ (upd (upd H2 dx (exd dx [(f, y)])) a (exo a C (some dx)))
theorem ps_ox {o : Expr} {f : Str} {to te : TE} {p' : Pos} (O : OxC X.K C B newId initId tl) (hno : PySem.W.findIn X.K (.ref C) f = some none) (ho : PE X o to) (he : PE X e te) (hs : swapsWith e (some (.Attribute o f p')) pos.line X.env = pure false) : PS X (.Assign [.Attribute o f p'] e pos) (tOx C f to te) := by
  refine ⟨fun pins s σ H D I h => ?_⟩
  refine plainObj_wpAny_Assign_Attribute (thn (he.run pins s σ H _ I h) fun v s1 ⟨y, H1, I1, r1, q1⟩ => thn (ho.run pins s1 σ H1 _ I1 q1) fun u s2 ⟨x, H2, I2, r2, a, ex, ea, q⟩ => ?_) hs
  subst ex
  obtain rfl : u = Value.ref a := r2
  exact ox_store O I2 ea hno r1 fun dx s' n ne J => ⟨σ, _, J, q dx n ne⟩
end
/-- the word of an error, by its field or not: whether it is made of it -/
def wdE (kd : Str → Option NameKind) (f : Str) : Expr → Option Bool
  | .Constant (.str _) _ _ => some false
  | .BinOp (.Constant (.str x) _ _) .Add (.Call (.Name s _) [.Name y _] [] _) _ => if (s == ("str" : Str) && glB (kd s) && y == f && visB (kd y) && !(y == dbg) && !(y == cdt) && decide (x.length ≤ 1000)) = true then some true else none
  | .BinOp (.BinOp (.Constant (.str x) _ _) .Add (.Call (.Name s _) [.Name y _] [] _) _) .Add (.Constant (.str z) _ _) _ => if (s == ("str" : Str) && glB (kd s) && y == f && visB (kd y) && !(y == dbg) && !(y == cdt) && decide (x.length ≤ 1000) && decide (z.length ≤ 1000)) = true then some true else none
  | _ => none
theorem digits_len {i : Int} (h : i.natAbs < 10 ^ 9) : (Str.ofString (toString i)).length ≤ 12 := by
  rw [ofString_digits, mkS_len]
  unfold digits
  rw [List.length_map]
  have nat : ∀ n : Nat, n < 10 ^ 9 → (toString n).toList.length ≤ 11 := by
    intro n hn
    have : (toString n).toList = Nat.toDigits 10 n := by
      show (Nat.repr n).toList = _
      simp [Nat.repr]
    rw [this]
    have hl := Nat.length_toDigits_le_iff (b := 10) (n := n) (k := 11) (by decide) (by decide)
    exact hl.mpr (Nat.lt_trans hn (by decide))
  cases i with
  | ofNat n =>
    have : (toString (Int.ofNat n)).toList = (toString n).toList := rfl
    rw [this]
    have := nat n h
    omega
  | negSucc n =>
    have : (toString (Int.negSucc n)) = "-" ++ toString (n + 1) := rfl
    rw [this, String.toList_append, List.length_append]
    have := nat (n + 1) h
    have e : ("-" : String).toList.length = 1 := by decide
    omega
section
variable {X : Cx}
/-- str(f) -/
def tStr (i : Nat) : TE := fun σ H Q => ∃ y, σ[i]? = some (some y) ∧ strV y ∧ ∀ z : Str, z.length ≤ 1000 → Q (.str z) H
theorem cr_str1 : CallR X (.type "str") (fun xs H Q => ∃ y, xs = [y] ∧ strV y ∧ ∀ z : Str, z.length ≤ 1000 → Q (.str z) H) := by
  intro pins s σ H vs us Q I r h
  obtain ⟨y, rfl, hy, q⟩ := h
  rcases hy with ⟨z, rfl, hz⟩ | ⟨i, rfl, hi⟩
  · exact SkE.call_str_str pins s σ H _ us Q I r ⟨z, rfl, q z hz⟩
  · refine call_str_int pins s σ H _ us Q I r ⟨i, rfl, ?_, q _ ?_⟩
    · have : i.natAbs.log2 < 30 := by
        by_cases h0 : i.natAbs = 0
        · rw [h0]; decide
        · exact (Nat.log2_lt h0).mpr (Nat.lt_trans hi (by decide))
      omega
    · have := digits_len hi
      have e : ((toString i : String) : Str) = Str.ofString (toString i) := rfl
      first | omega | (rw [show ((toString i : Str)).length = (Str.ofString (toString i)).length from rfl]; omega)
theorem pe_str1 {s y : Str} {i : Nat} {p p2 pos : Pos} (hs : s = "str") (hg : Gl X s) (hm : X.mg "str" = none) (hN : X.N[i]? = some y) (hv : Vis X.env.scope y) (h3 : (y == dbg) = false) (h4 : (y == cdt) = false) : PE X (.Call (.Name s p) [.Name y p2] [] pos) (tStr i) := by
  subst hs
  exact (pe_callTy cr_str1 hg hm (by decide +kernel) (pa_cons (pe_var hN hv h3 h4) pa_nil)).imp fun σ H Q ⟨y, e, hy, q⟩ => ⟨y, e, y, rfl, hy, q⟩
theorem pe_wd {f : Str} {i : Nat} {e : Expr} {sb : Bool} {kd : Str → Option NameKind} (hk : ∀ x, kd x = X.env.scope.names.lookup x) (hm : X.mg "str" = none) (hN : X.N[i]? = some f) (h : wdE kd f e = some sb) :
    PE X e (fun σ H Q => (sb = true → ∃ y, σ[i]? = some (some y) ∧ strV y) ∧ ∀ z, Q z H) := by
  unfold wdE at h
  split at h
  · cases h
    exact pe_str.imp fun σ H Q q => q.2 _
  · split at h
    · rename_i hh
      cases h
      simp only [Bool.and_eq_true, beq_iff_eq, Bool.not_eq_true', decide_eq_true_eq] at hh
      obtain ⟨⟨⟨⟨⟨⟨rfl, hg⟩, rfl⟩, hv⟩, h3⟩, h4⟩, hl⟩ := hh
      refine (pe_op op_add_str pe_str (pe_str1 (i := i) rfl (by show List.lookup _ _ = _; rw [← hk]; exact gl_of hg) hm hN (by rw [hk] at hv; exact vis_of hv) h3 h4)).imp fun σ H Q ⟨q1, q2⟩ => ?_
      obtain ⟨y, e, hy⟩ := q1 rfl
      exact ⟨y, e, hy, fun z hz => ⟨_, z, rfl, rfl, by rw [sizeLine_eq]; omega, q2 _⟩⟩
    · cases h
  · split at h
    · rename_i hh
      cases h
      simp only [Bool.and_eq_true, beq_iff_eq, Bool.not_eq_true', decide_eq_true_eq] at hh
      obtain ⟨⟨⟨⟨⟨⟨⟨rfl, hg⟩, rfl⟩, hv⟩, h3⟩, h4⟩, hl⟩, hl2⟩ := hh
      refine (pe_op op_add_str (pe_op op_add_str pe_str (pe_str1 (i := i) rfl (by show List.lookup _ _ = _; rw [← hk]; exact gl_of hg) hm hN (by rw [hk] at hv; exact vis_of hv) h3 h4)) pe_str).imp fun σ H Q ⟨q1, q2⟩ => ?_
      obtain ⟨y, e, hy⟩ := q1 rfl
      refine ⟨y, e, hy, fun z hz => ⟨_, z, rfl, rfl, by rw [sizeLine_eq]; omega, _, _, rfl, rfl, ?_, q2 _⟩⟩
      have : ∀ a b : Str, (a ++ b).length = a.length + b.length := fun a b => by show (a.cps ++ b.cps).size = _; rw [Array.size_append]; rfl
      rw [this, sizeLine_eq]; omega
    · cases h
  · cases h
end
def iniN (f : Option Str) : List Str := match f with | some f => ["self", f] | none => ["self"]
def slf : Str := "self"
/-- what an own __init__'s text must be -/
def iniB (B : Str) (f : Option Str) (sb : Bool) (st : Stmt) : Bool :=
  scN (iniN f) (iniN f) (defScope st) && (match f, defBody st with
    | some f, [.Expr (.Call (.Attribute (.Name x _) m apos) [.Name y _, e] [] cpos) _, .Assign [.Attribute (.Name z _) f1 _] (.Name f2 _) _] =>
        x == B && m == ("__init__" : Str) && y == slf && z == slf && f1 == f && f2 == f && !(f == dbg) && !(f == cdt) && glB ((defScope st).names.lookup x) && !(x == dbg) && visB ((defScope st).names.lookup slf) && visB ((defScope st).names.lookup f) &&
        decide (wdE (fun x => (defScope st).names.lookup x) f e = some sb) && noStar e && (apos.endLine == cpos.line)
    | none, [.Expr (.Call (.Attribute (.Name x _) m apos) [.Name y _, e] [] cpos) _] =>
        x == B && m == ("__init__" : Str) && y == slf && glB ((defScope st).names.lookup x) && !(x == dbg) && visB ((defScope st).names.lookup slf) && decide (wdE (fun _ => none) slf e = some false) && noStar e && (apos.endLine == cpos.line) && !sb
    | _, _ => false)
section
variable {P : Program} {w : World} {K : PySem.W.Frag} {mg : Str → Option Value} {base : Heap}
/-- an own __init__ keeps what it is handed -/
theorem ini_fn {c bc fI : Addr} {x qual : Str} {st : Stmt} {fd : FuncData} {B : Str} {f : Option Str} {sb : Bool} {Bn newId initId : String} {tl : List Value} (O : OxC K c Bn newId initId tl) (hB : mg B = some (.ref bc)) (rd : PySem.W.readsIn K bc (.type "type") = true)
    (ga : PySem.W.specialIn K (.ref bc) "__getattribute__" = some (some (.builtin "type.__getattribute__"))) (vV : PySem.W.findCls K (.ref bc) (.type "type") "__init__" = some (.val (.builtin initId))) (hh : PySem.W.handedIn (.builtin initId) = true)
    (hno : ∀ z, f = some z → PySem.W.findIn K (.ref c) z = some none) (hstr : mg "str" = none)
    (F : ∃ (oc : Value) (od : Option Addr) (dV kV doc pm : Value) (an : Option Addr) (cdv ct : Value) (osl : Array (Option Value)),
      fd = PySem.W.fnOf x qual (defArgs st) (defBody st) (defScope st) dV kV doc pm an cdv ct ∧ K.lookup fI = some ⟨oc, od, .func fd, osl⟩ ∧ PySem.W.codeIn K cdv qual = true)
    (hd : iniB B f sb st = true) : FnG true P w K mg base (L2N.CX P w) 2 fI fd (iniN f) (spX c f sb) := by
  obtain ⟨oc, od, dV, kV, doc, pm, an, cdv, ct, osl, rfl, lk, hcd⟩ := F
  unfold iniB at hd
  obtain ⟨h1, h2⟩ := ands hd
  have sco := scope_ok h1
  refine fn_g (k := 1) lk hcd sco (fun vs H Q E q => ?_) fun A outer s H vs Q E hgd hr _ hsp => ?_
  · unfold spX at q
    cases f with
    | some f => obtain ⟨a, y, rfl, _⟩ := q; rfl
    | none => obtain ⟨a, rfl, _⟩ := q; rfl
  · split at h2
    · rename_i f0 x1 p1 m apos y py e cpos ep z pz f1 p2 f2 p3 ap heq
      simp only [Bool.and_eq_true, beq_iff_eq, Bool.not_eq_true', decide_eq_true_eq] at h2
      obtain ⟨⟨⟨⟨⟨⟨⟨⟨⟨⟨⟨⟨⟨⟨rfl, rfl⟩, rfl⟩, rfl⟩, rfl⟩, rfl⟩, g1⟩, g2⟩, g3⟩, g4⟩, g5⟩, g6⟩, g7⟩, g8⟩, g9⟩ := h2
      rw [heq]
      have pe := pe_wd (X := cxB true (L2N.CX P w) P w K mg base (iniN (some f2)) qual (defScope st) fI cdv A outer s H E) (i := 1) (fun _ => rfl) hstr rfl g7
      have sv : ∀ {p : Pos}, PE (cxB true (L2N.CX P w) P w K mg base (iniN (some f2)) qual (defScope st) fI cdv A outer s H E) (.Name slf p) (tVar 0) := fun {p} => pe_var rfl (vis_of g5)
      have fv : ∀ {p : Pos}, PE (cxB true (L2N.CX P w) P w K mg base (iniN (some f2)) qual (defScope st) fI cdv A outer s H E) (.Name f2 p) (tVar 1) := fun {p} => pe_var rfl (vis_of g6) g1 g2
      have a1 := pe_ini (X := cxB true (L2N.CX P w) P w K mg base _ qual (defScope st) fI cdv A outer s H E) (p1 := p1) (p2 := apos) (pos := cpos) O (show List.lookup x1 (defScope st).names = _ from gl_of g3) hB g4 rd ga vV hh (pa_cons sv (pa_cons pe pa_nil (star_cons g8)) rfl) (eval_own (es := [.Name slf py, e]) rfl (by simp [g8]; rfl) (by show 2 < 30; decide) (beq_iff_eq.mpr g9)) rfl (star_any (by simp [g8]))
      refine ⟨_, pss_cons (ps_expr a1) (pss_one (ps_ox O (hno _ rfl) sv fv rfl)), ?_⟩
      unfold spX at hsp
      obtain ⟨a, y, rfl, ha, hy, q⟩ := hsp
      refine ⟨_, rfl, ⟨fun hs => ⟨y, rfl, hy hs⟩, fun zz => ?_⟩⟩
      refine ⟨a, [zz], rfl, by show 1 ≤ 1000; decide, ha, ?_⟩
      exact ⟨_, rfl, _, rfl, a, rfl, ha, fun dx h1 h2 => q dx h1 h2⟩
    · rename_i x1 p1 m apos y py e cpos ep heq
      simp only [Bool.and_eq_true, beq_iff_eq, Bool.not_eq_true', decide_eq_true_eq] at h2
      obtain ⟨⟨⟨⟨⟨⟨⟨⟨⟨rfl, rfl⟩, rfl⟩, g3⟩, g4⟩, g5⟩, g7⟩, g8⟩, g9⟩, rfl⟩ := h2
      rw [heq]
      have pe : PE (cxB true (L2N.CX P w) P w K mg base (iniN none) qual (defScope st) fI cdv A outer s H E) e (fun σ H Q => ∀ z, Q z H) := by
        unfold wdE at g7
        split at g7
        · exact pe_str.imp fun σ H Q q => q _
        · split at g7 <;> cases g7
        · split at g7 <;> cases g7
        · cases g7
      have sv : ∀ {p : Pos}, PE (cxB true (L2N.CX P w) P w K mg base (iniN none) qual (defScope st) fI cdv A outer s H E) (.Name slf p) (tVar 0) := fun {p} => pe_var rfl (vis_of g5)
      have a1 := pe_ini (X := cxB true (L2N.CX P w) P w K mg base _ qual (defScope st) fI cdv A outer s H E) (p1 := p1) (p2 := apos) (pos := cpos) O (show List.lookup x1 (defScope st).names = _ from gl_of g3) hB g4 rd ga vV hh (pa_cons sv (pa_cons pe pa_nil (star_cons g8)) rfl) (eval_own (es := [.Name slf py, e]) rfl (by simp [g8]; rfl) (by show 2 < 30; decide) (beq_iff_eq.mpr g9)) rfl (star_any (by simp [g8]))
      refine ⟨_, pss_one (ps_expr a1), ?_⟩
      unfold spX at hsp
      obtain ⟨a, rfl, ha, q⟩ := hsp
      exact ⟨_, rfl, fun zz => ⟨a, [zz], rfl, by show 1 ≤ 1000; decide, ha, q⟩⟩
    · cases h2
end
end G
/-! G15: a program's tables, grown def by def. -/
namespace G
open PySem L2
structure Base where
  con : List (Str × D)
  flds : List (Str × List Str)
  dfs : List (Str × List (List D))
  kw : List ((Str × Nat × List Str) × List (Nat ⊕ D))
  hot : List Str
  xc : List (Str × (Option Str × Bool))
  xs : List ((Str × Str) × Bool)
  spc : List Str := []
  gd : List (Str × List (List Bool × List Nat)) := []
  rp : List (Str × List Rpt) := []
def Base.tab (b : Base) (fs : List (Str × FSp)) (ms : List ((Str × Str) × FSp)) : Tab where
  con := fun x => b.con.lookup x
  fn := fun f => fs.lookup f
  me := fun C m => ms.lookup (C, m)
  flds := fun C => (b.flds.lookup C).getD []
  dfs := fun f df => df ∈ (b.dfs.lookup f).getD [[]]
  kw := fun f n ks => b.kw.lookup (f, n, ks)
  xc := fun C => b.xc.lookup C
  xs := fun C D => b.xs.lookup (C, D)
  hot := fun f => b.hot.contains f
  spc := fun C => b.spc.contains C
  gd := fun x => b.gd.lookup x
  rp := fun x => b.rp.lookup x
theorem kit_bi (K : PySem.W.Frag) : ∀ n ∈ kdN, ∀ m ∈ biTys, PySem.W.kitOne K (.type n) (.type m) = some (isiB (.b n) (.b m)) := by
  intro n hn m hm
  simp only [kdN, biTys, List.mem_cons, List.not_mem_nil, or_false] at hn hm
  rcases hn with rfl | rfl | rfl | rfl | rfl | rfl | rfl <;> rcases hm with rfl | rfl | rfl | rfl | rfl | rfl <;> rfl
theorem look_mem {α β : Type} [BEq α] [LawfulBEq α] {x : α} {y : β} : ∀ {l : List (α × β)}, l.lookup x = some y → (x, y) ∈ l
  | [], h => by cases h
  | (a, b) :: l, h => by
    rw [List.lookup_cons] at h
    split at h
    · rename_i e
      rw [beq_iff_eq] at e
      subst e
      cases h
      simp
    · exact List.mem_cons_of_mem _ (look_mem h)
section
variable {b : Base} {K : PySem.W.Frag} {mg : Str → Option Value} {P : Program} {w : World} {base : Heap} {k k' : Nat} {fs : List (Str × FSp)} {ms : List ((Str × Str) × FSp)}
/-- what the top has written, once for all -/
structure BF (b : Base) (K : PySem.W.Frag) (mg : Str → Option Value) : Prop where
  con : ∀ p ∈ b.con, ∃ v u, mg p.1 = some u ∧ RelV v u ∧ ∀ B S H, RD ⟨K, mg, B⟩ S H p.2 v
  fld : ∀ p ∈ b.flds, ∃ c, mg p.1 = some (.ref c) ∧ Cls K c ∧ ∀ f ∈ p.2, NoAttr K c f
  own : ∀ C ∈ clN, ∀ c, mg C = some (.ref c) → InsTy K c ∧ (∀ m ∈ biTys, PySem.W.kitOne K (.ref c) (.type m) = some false) ∧ (∀ n ∈ kdN, PySem.W.kitOne K (.type n) (.ref c) = some false) ∧ ∀ C' ∈ clN, ∀ c', mg C' = some (.ref c') → PySem.W.kitOne K (.ref c') (.ref c) = some (C' == C)
  blt : ∀ x : Str, x ∈ (["len", "all", "any", "abs", "max", "min", "int", "str", "tuple", "list", "divmod", "isinstance", "range", "enumerate", "zip", "bool", "dict", "sorted", "set", "repr", "sum", "reversed"] : List Str) → mg x = none
  xsb : ∀ p ∈ b.xs, ∃ c u, mg p.1.1 = some (.ref c) ∧ ExcC K c ∧ nmV mg p.1.2 u ∧ PySem.W.exmOne K (.ref c) u = some p.2 ∧ PySem.W.kitOne K (.ref c) u = some p.2
  spb : ∀ C ∈ b.spc, ∀ cc, mg C = some (.ref cc) → PySem.W.findIn K (.ref cc) "__ne__" = some (some (.builtin "object.__ne__")) ∧ PySem.W.subIn K (.ref cc) (.type "object") = some true
  gdb : ∀ p ∈ b.gd, ∃ a, mg p.1 = some (.ref a) ∧ GdAt K a p.2
  rpb : ∀ p ∈ b.rp, ∀ (P : Program) (w : World) (base : Heap), RpOk K mg P w base p.1 p.2
/-- a def of the module -/
def FnE (b : Base) (K : PySem.W.Frag) (mg : Str → Option Value) (P : Program) (w : World) (base : Heap) (k : Nat) (f : Str) (φ : FSp) : Prop :=
  ∃ a fd ps, mg f = some (.ref a) ∧ PySem.W.keepIn K (.ref a) = true ∧ FnG (b.hot.contains f) P w K mg base (L2N.CX P w) k a fd ps (spOf K mg φ) ∧
    (∀ df ∈ (b.dfs.lookup f).getD [[]], ∃ dvs us, Binds K fd ps us ∧ Vals dvs us ∧ ∀ B S H, RDs ⟨K, mg, B⟩ S H df dvs) ∧
    ∀ n ks pl, b.kw.lookup (f, n, ks) = some pl → ∃ gU gV, KBn K fd ps n ks gU gV ∧ ∀ B S H ds us vs zs, ds.length = n → us.length = ks.length → RDs ⟨K, mg, B⟩ S H ds vs → RDs ⟨K, mg, B⟩ S H us zs → RDs ⟨K, mg, B⟩ S H (pick pl (ds ++ us)) (gV vs zs)
/-- a method -/
def MeE (b : Base) (K : PySem.W.Frag) (mg : Str → Option Value) (P : Program) (w : World) (base : Heap) (k : Nat) (C m : Str) (φ : FSp) : Prop :=
  ∃ c a fd ps, mg C = some (.ref c) ∧ Cls K c ∧ Meth K c m a ∧ FnG false P w K mg base (L2N.CX P w) k a fd ps (spOf K mg φ) ∧ Binds K fd ps [] ∧
    (m = ini → Mk K c a ∧ ∀ df ∈ (b.dfs.lookup C).getD [[]], ∃ dvs us, Binds K fd ps us ∧ Vals dvs us ∧ ∀ B S H, RDs ⟨K, mg, B⟩ S H df dvs)
theorem FnE.mono {f : Str} {φ : FSp} (h : FnE b K mg P w base k f φ) (hk : k ≤ k') : FnE b K mg P w base k' f φ := by
  obtain ⟨a, fd, ps, h1, h2, F, h3⟩ := h
  exact ⟨a, fd, ps, h1, h2, F.up hk, h3⟩
theorem MeE.mono {C m : Str} {φ : FSp} (h : MeE b K mg P w base k C m φ) (hk : k ≤ k') : MeE b K mg P w base k' C m φ := by
  obtain ⟨c, a, fd, ps, h1, h2, h3, F, h4⟩ := h
  exact ⟨c, a, fd, ps, h1, h2, h3, F.up hk, h4⟩
/-- all that is known at a level -/
structure GL (b : Base) (K : PySem.W.Frag) (mg : Str → Option Value) (P : Program) (w : World) (base : Heap) (fs : List (Str × FSp)) (ms : List ((Str × Str) × FSp)) (k : Nat) : Prop where
  bf : BF b K mg
  fns : ∀ p ∈ fs, FnE b K mg P w base k p.1 p.2
  mes : ∀ p ∈ ms, MeE b K mg P w base k p.1.1 p.1.2 p.2
  xcs : ∀ p ∈ b.xc, XcOk K mg P w base k p.1 p.2.1 p.2.2
theorem XcOk.mono {C : Str} {f : Option Str} {sb : Bool} (h : XcOk K mg P w base k C f sb) (hk : k ≤ k') : XcOk K mg P w base k' C f sb := by
  obtain ⟨c, fI, B, newId, initId, tl, fd, ps, h1, h2, h3, h4, h5, F, h6⟩ := h
  exact ⟨c, fI, B, newId, initId, tl, fd, ps, h1, h2, h3, h4, h5, F.up hk, h6⟩
theorem GL.nil (bf : BF b K mg) (xc : ∀ p ∈ b.xc, XcOk K mg P w base 2 p.1 p.2.1 p.2.2) : GL b K mg P w base [] [] 2 := ⟨bf, (fun p h => by cases h), (fun p h => by cases h), xc⟩
theorem GL.fn {f : Str} {φ : FSp} (h : GL b K mg P w base fs ms k) (e : FnE b K mg P w base k' f φ) (hk : k ≤ k') : GL b K mg P w base ((f, φ) :: fs) ms k' := by
  refine ⟨h.bf, fun p hp => ?_, fun p hp => (h.mes p hp).mono hk, fun p hp => (h.xcs p hp).mono hk⟩
  rcases List.mem_cons.mp hp with rfl | hp
  · exact e
  · exact (h.fns p hp).mono hk
theorem GL.me {C m : Str} {φ : FSp} (h : GL b K mg P w base fs ms k) (e : MeE b K mg P w base k' C m φ) (hk : k ≤ k') : GL b K mg P w base fs (((C, m), φ) :: ms) k' := by
  refine ⟨h.bf, fun p hp => (h.fns p hp).mono hk, fun p hp => ?_, fun p hp => (h.xcs p hp).mono hk⟩
  rcases List.mem_cons.mp hp with rfl | hp
  · exact e
  · exact (h.mes p hp).mono hk
theorem GL.ge (h : GL b K mg P w base fs ms k) : GE (b.tab fs ms) K mg P w base k where
  con := fun x d e => h.bf.con (x, d) (look_mem e)
  fns := fun f φ e => h.fns (f, φ) (look_mem e)
  mes := fun C m φ e => by
    obtain ⟨c, a, fd, ps, h1, h2, h3, F, h4, _⟩ := h.mes ((C, m), φ) (look_mem e)
    exact ⟨c, a, fd, ps, h1, h2, h3, F, h4⟩
  mks := fun C φ e => by
    obtain ⟨c, a, fd, ps, h1, h2, h3, F, h4, h5⟩ := h.mes ((C, ini), φ) (look_mem e)
    obtain ⟨m, d⟩ := h5 rfl
    exact ⟨c, a, fd, ps, h1, m, F, d⟩
  fld := fun C f e => by
    have e' : f ∈ (b.flds.lookup C).getD [] := e
    cases hl : b.flds.lookup C with
    | none => rw [hl] at e'; cases e'
    | some l =>
      rw [hl] at e'
      obtain ⟨c, h1, h2, h3⟩ := h.bf.fld (C, l) (look_mem hl)
      exact ⟨c, h1, h2, h3 f e'⟩
  isi := fun kd t kv tv hk ht h1 h2 => by
    cases kd with
    | b n =>
      have e1 : kv = .type n := h1
      subst e1
      have hn := List.contains_iff_mem.mp hk
      refine ⟨?_, fun C c z => by cases z⟩
      cases t with
      | b m =>
        have e2 : tv = .type m := h2
        subst e2
        exact kit_bi K n hn m (List.contains_iff_mem.mp ht)
      | o C =>
        obtain ⟨c, hm, rfl⟩ := h2
        exact (h.bf.own C (List.contains_iff_mem.mp ht) c hm).2.2.1 n hn
    | o C =>
      obtain ⟨c, hm, rfl⟩ := h1
      have q := h.bf.own C (List.contains_iff_mem.mp hk) c hm
      refine ⟨?_, fun C' c' z hm' => ?_⟩
      · cases t with
        | b m =>
          have e2 : tv = .type m := h2
          subst e2
          exact q.2.1 m (List.contains_iff_mem.mp ht)
        | o C' =>
          obtain ⟨c', hm', rfl⟩ := h2
          exact (h.bf.own C' (List.contains_iff_mem.mp ht) c' hm').2.2.2 C (List.contains_iff_mem.mp hk) c hm
      · cases z
        rw [hm] at hm'
        cases hm'
        exact q.1
  blt := h.bf.blt
  xcs := fun C f sb e => h.xcs (C, (f, sb)) (look_mem e)
  xsb := fun C D q e => h.bf.xsb ((C, D), q) (look_mem e)
  spb := fun C e => h.bf.spb C (List.contains_iff_mem.mp e)
  gdb := fun x kvs e => h.bf.gdb (x, kvs) (look_mem e)
  rps := fun C ps e => h.bf.rpb (C, ps) (look_mem e) P w base
/-! ### how a def enters -/
theorem FunD.shape {x qual : Str} {st : Stmt} {dvs : List V} {a : Addr} {fd : FuncData} (F : FunD K x qual (defArgs st) (defBody st) (defScope st) dvs [] a fd) :
    ∃ (oc : Value) (od : Option Addr) (dV kV doc pm : Value) (an : Option Addr) (cdv ct : Value) (osl : Array (Option Value)),
      fd = PySem.W.fnOf x qual (defArgs st) (defBody st) (defScope st) dV kV doc pm an cdv ct ∧ K.lookup a = some ⟨oc, od, .func fd, osl⟩ ∧ PySem.W.codeIn K cdv qual = true := by
  obtain ⟨oc, od, dV, kV, doc, pm, an, cdv, ct, osl, h1, h2, h3, _⟩ := F.ex
  exact ⟨oc, od, dV, kV, doc, pm, an, cdv, ct, osl, h1, h2, h3⟩
/-- a plain call: every parameter is written -/
def BindAll (x qual : Str) (st : Stmt) (ps : List Str) : Prop := ∀ (kV doc pm : Value) (an : Option Addr) (cdv ct : Value) (us : List Value), us.length = ps.length → bindArgs (PySem.W.fnOf x qual (defArgs st) (defBody st) (defScope st) .none kV doc pm an cdv ct) ⟨us, []⟩ = pure (ps.zip us)
theorem binds_all {x qual : Str} {st : Stmt} {ps : List Str} {a : Addr} {fd : FuncData} (F : FunD K x qual (defArgs st) (defBody st) (defScope st) [] [] a fd) (h : BindAll x qual st ps) : Binds K fd ps [] := by
  obtain ⟨oc, od, dV, kV, doc, pm, an, cdv, ct, osl, rfl, _, _, hD, _⟩ := F.ex
  rcases hD with ⟨_, rfl⟩ | ⟨e, _⟩
  · exact Binds.all (h kV doc pm an cdv ct)
  · exact absurd rfl e
/-- a call by names, none left out -/
def BindKw (x qual : Str) (st : Stmt) (ps : List Str) (n : Nat) (ks : List Str) (is : List Nat) : Prop := ∀ (kV doc pm : Value) (an : Option Addr) (cdv ct : Value) (us ws : List Value), us.length = n → ws.length = ks.length →
  bindArgs (PySem.W.fnOf x qual (defArgs st) (defBody st) (defScope st) .none kV doc pm an cdv ct) ⟨us, ks.zip ws⟩ = pure (ps.zip (is.map fun j => (us ++ ws).getD j .none))
theorem rds_getD {g : Gx} {S : Sto} {H : Hp} {ds : List D} {vs : List V} (r : RDs g S H ds vs) (j : Nat) : RD g S H (ds.getD j .non) (vs.getD j .non) := by
  rw [List.getD_eq_getElem?_getD, List.getD_eq_getElem?_getD]
  cases e : ds[j]? with
  | some d =>
    obtain ⟨v, h1, h2⟩ := r.get j d e
    rw [h1]
    exact h2
  | none =>
    have : vs[j]? = none := by
      rw [List.getElem?_eq_none_iff] at e ⊢
      rw [← r.length]; exact e
    rw [this]
    exact rd_non
theorem vals_getD {vs : List V} {us : List Value} (r : Vals vs us) (j : Nat) : RelV (vs.getD j .non) (us.getD j .none) := by
  induction r generalizing j with
  | nil => exact rfl
  | cons h t ih =>
    cases j with
    | zero => exact h
    | succ j => exact ih j
theorem kbn_of {x qual : Str} {st : Stmt} {ps : List Str} {a : Addr} {fd : FuncData} {n : Nat} {ks : List Str} {is : List Nat} (F : FunD K x qual (defArgs st) (defBody st) (defScope st) [] [] a fd) (h : BindKw x qual st ps n ks is) :
    ∃ gU gV, KBn K fd ps n ks gU gV ∧ ∀ B S H ds us vs zs, ds.length = n → us.length = ks.length → RDs ⟨K, mg, B⟩ S H ds vs → RDs ⟨K, mg, B⟩ S H us zs → RDs ⟨K, mg, B⟩ S H (pick (is.map .inl) (ds ++ us)) (gV vs zs) := by
  obtain ⟨oc, od, dV, kV, doc, pm, an, cdv, ct, osl, rfl, _, _, hD, _⟩ := F.ex
  obtain rfl : dV = .none := by
    rcases hD with ⟨_, e⟩ | ⟨e, _⟩
    · exact e
    · exact absurd rfl e
  refine ⟨fun us ws => is.map fun j => (us ++ ws).getD j .none, fun vs zs => is.map fun j => (vs ++ zs).getD j .non, ⟨fun s us ws X l1 l2 => .of_eq (h kV doc pm an cdv ct us ws l1 l2), fun r1 r2 => ?_⟩, fun B S H ds us vs zs l1 l2 r1 r2 => ?_⟩
  · have r := r1.append r2
    clear h
    induction is with
    | nil => exact .nil
    | cons j is ih => exact .cons (vals_getD r j) ih
  · have r := r1.append r2
    clear h
    induction is with
    | nil => exact RDs.nil
    | cons j is ih => exact RDs.cons (rds_getD r j) ih
/-- a def without defaults -/
theorem fnE {f : Str} {st : Stmt} {N ps : List Str} {body : Ss} {φ : FSp} {a : Addr} {fd : FuncData} (h : GL b K mg P w base fs ms k) (F : FunD K f f (defArgs st) (defBody st) (defScope st) [] [] a fd) (hm : mg f = some (.ref a)) (hd : defOk (b.hot.contains f) N ps body st = true)
    (hb : BindAll f f st ps) (hdf : (b.dfs.lookup f).getD [[]] = [[]]) (hkw : ∀ n ks pl, b.kw.lookup (f, n, ks) = some pl → ∃ is, pl = is.map .inl ∧ BindKw f f st ps n ks is) (hl : ∀ ds S Q E, φ ds S Q E → ds.length = ps.length) (hφ : ∀ ds S Q E, φ ds S Q E → wFn (b.tab fs ms) N.length body ds S Q E) :
    FnE b K mg P w base (k + 2) f φ := by
  refine ⟨a, fd, ps, hm, F.kp, fn_ok h.ge (FunD.shape F) hd hl hφ, fun df e => ?_, fun n ks pl e => ?_⟩
  · rw [hdf, List.mem_singleton] at e
    subst e
    exact ⟨[], [], binds_all F hb, .nil, fun _ _ _ => RDs.nil⟩
  · obtain ⟨is, rfl, hk⟩ := hkw n ks pl e
    exact kbn_of F hk
/-- a method without defaults -/
theorem meE {C m qual : Str} {st : Stmt} {N ps : List Str} {body : Ss} {φ : FSp} {c a : Addr} {fd : FuncData} {dvs : List V} (h : GL b K mg P w base fs ms k) (F : FunD K m qual (defArgs st) (defBody st) (defScope st) dvs [] a fd) (hm : mg C = some (.ref c)) (hc : Cls K c) (mt : Meth K c m a) (hd : defOk false N ps body st = true)
    (hb : Binds K fd ps []) (hini : m = ini → Mk K c a ∧ ∀ df ∈ (b.dfs.lookup C).getD [[]], ∃ dvs us, Binds K fd ps us ∧ Vals dvs us ∧ ∀ B S H, RDs ⟨K, mg, B⟩ S H df dvs)
    (hl : ∀ ds S Q E, φ ds S Q E → ds.length = ps.length) (hφ : ∀ ds S Q E, φ ds S Q E → wFn (b.tab fs ms) N.length body ds S Q E) : MeE b K mg P w base (k + 2) C m φ :=
  ⟨c, a, fd, ps, hm, hc, mt, fn_ok h.ge (FunD.shape F) hd hl hφ, hb, hini⟩
end
end G
/-! G16: laws of the wishes, for plain proofs. -/
namespace G
open PySem L2
theorem Sub.refl (S : Sto) : Sub S S := fun _ _ h => h
theorem Sub.trans {A B C : Sto} (h : Sub A B) (h' : Sub B C) : Sub A C := fun a o e => h' a o (h a o e)
theorem Sub.set_new {S : Sto} {a : Addr} {o : O} (h : S a = none) : Sub S (S.set a o) := fun b u e => by
  have : b ≠ a := fun z => by rw [z, h] at e; cases e
  rw [Sto.set_ne this]; exact e
theorem Sub.none {S S' : Sto} (h : Sub S' S) {a : Addr} (e : S a = none) : S' a = none := by
  cases e' : S' a with
  | none => rfl
  | some o => rw [h a o e'] at e; cases e
theorem Sub.set {S S' : Sto} (h : Sub S' S) (a : Addr) (o : O) : Sub (S'.set a o) (S.set a o) := fun b u e => by
  by_cases hb : b = a
  · subst hb; rw [Sto.set_same] at e ⊢; exact e
  · rw [Sto.set_ne hb] at e ⊢; exact h b u e
theorem Sto.set_set {S : Sto} {a : Addr} {o u : O} : (S.set a o).set a u = S.set a u := by
  funext b; unfold Sto.set; split <;> rfl
section
variable {set : D → Sl → (Sl → Prop) → Prop} {test : Sl → Sto → (Bool → Sto → Prop) → Prop} {elt : Sl → Sto → QV → Prop} {same : Sto → Prop} {ρ : Sl} {S : Sto}
/-- a list is made: an invariant -/
theorem wLc_inv (I : Nat → List D → Sto → Prop) {Q : List D → Sto → Prop} : ∀ {ds acc : List D} {S : Sto} (i : Nat), I i acc S →
    (∀ j d acc S, ds[j]? = some d → I (i + j) acc S → same S ∧ ∀ (k1 : D → Sto → Prop) (k0 : Sto → Prop), (∀ y S2, I (i + j + 1) (acc ++ [y]) S2 → k1 y S2) → (∀ S2, I (i + j + 1) acc S2 → k0 S2) →
      set d ρ fun ρ1 => test ρ1 S fun b S1 => if b = true then elt ρ1 S1 k1 else k0 S1) →
    (∀ j acc S, j ≤ ds.length → I (i + j) acc S → acc.length < lim) →
    (∀ acc S, I (i + ds.length) acc S → same S ∧ Q acc S) → wLc set test elt same ρ ds acc S Q
  | [], acc, S, i, h0, _, _, hq => by unfold wLc; exact hq acc S h0
  | d :: ds, acc, S, i, h0, h, hl, hq => by
    unfold wLc
    obtain ⟨h1, h2⟩ := h 0 d acc S rfl h0
    have e : ∀ j, i + 1 + j = i + (j + 1) := fun j => by omega
    have rest : ∀ acc S, I (i + 1) acc S → wLc set test elt same ρ ds acc S Q := fun acc S hi => wLc_inv I (i + 1) hi
      (fun j d acc S hj hi => by rw [e j] at hi ⊢; exact h (j + 1) d acc S hj hi)
      (fun j acc S hj hi => by rw [e j] at hi; exact hl (j + 1) acc S (by rw [List.length_cons]; omega) hi)
      (fun acc S hi => by rw [e] at hi; exact hq acc S hi)
    exact ⟨h1, h2 _ _ (fun y S2 hy => ⟨hl 0 acc S (Nat.zero_le _) h0, rest _ _ hy⟩) (fun S2 hy => rest _ _ hy)⟩
/-- a list is made of a list, nothing else happens -/
theorem wLc_pure (f : D → D) (keep : D → Bool) {Q : List D → Sto → Prop} : ∀ {ds acc : List D}, same S → (∀ d ∈ ds, ∀ (k1 : D → Sto → Prop) (k0 : Sto → Prop), (keep d = true → k1 (f d) S) → (keep d = false → k0 S) →
      set d ρ fun ρ1 => test ρ1 S fun b S1 => if b = true then elt ρ1 S1 k1 else k0 S1) → acc.length + ds.length ≤ lim → Q (acc ++ (ds.filter keep).map f) S → wLc set test elt same ρ ds acc S Q
  | [], acc, hs, _, _, hq => by unfold wLc; exact ⟨hs, by simpa using hq⟩
  | d :: ds, acc, hs, h, hl, hq => by
    unfold wLc
    rw [List.length_cons] at hl
    refine ⟨hs, h d (by simp) _ _ (fun hk => ⟨by omega, ?_⟩) (fun hk => ?_)⟩
    · refine wLc_pure f keep hs (fun d' hd => h d' (by simp [hd])) (by rw [List.length_append, List.length_singleton]; omega) ?_
      rw [List.filter_cons, if_pos hk, List.map_cons] at hq
      simpa using hq
    · refine wLc_pure f keep hs (fun d' hd => h d' (by simp [hd])) (by omega) ?_
      rw [List.filter_cons, hk] at hq
      simpa using hq
end
theorem filter_all {α : Type} (l : List α) : l.filter (fun _ => true) = l := by simp
/-- a loop: an invariant -/
theorem wFor_inv {set : D → Sl → (Sl → Prop) → Prop} {body : Sl → Sto → Nd → Prop} {same : Sto → Prop} {N : Nd} (I : Nat → Sl → Sto → Prop) : ∀ {ds : List D} {ρ : Sl} {S : Sto} (i : Nat), I i ρ S →
    (∀ j d ρ S, ds[j]? = some d → I (i + j) ρ S → same S ∧ ∀ nx : Sl → Sto → Prop, (∀ ρ' S', I (i + j + 1) ρ' S' → nx ρ' S') → set d ρ fun ρ1 => body ρ1 S { nx := nx, rt := N.rt, bk := N.nx, ct := nx }) →
    (∀ ρ S, I (i + ds.length) ρ S → same S ∧ N.nx ρ S) → wFor set body same N ds ρ S
  | [], ρ, S, i, h0, _, hq => by unfold wFor; exact hq ρ S h0
  | d :: ds, ρ, S, i, h0, h, hq => by
    unfold wFor
    obtain ⟨h1, h2⟩ := h 0 d ρ S rfl h0
    have e : ∀ j, i + 1 + j = i + (j + 1) := fun j => by omega
    have rest : ∀ ρ S, I (i + 1) ρ S → wFor set body same N ds ρ S := fun ρ S hi => wFor_inv I (i + 1) hi (fun j d ρ S hj hi => by rw [e j] at hi ⊢; exact h (j + 1) d ρ S hj hi) (fun ρ S hi => by rw [e] at hi; exact hq ρ S hi)
    exact ⟨h1, h2 _ rest⟩
/-! ### kinds -/
def isStrD : D → Bool
  | .str _ => true
  | _ => false
def isIntD : D → Bool
  | .int _ => true
  | .bl _ => true
  | _ => false
def isBlD : D → Bool
  | .bl _ => true
  | _ => false
def isTupD : D → Bool
  | .tup _ => true
  | _ => false
section
variable {S : Sto} {x : D} {k : Kd}
theorem kind_str (h : kindOf S x = some k) : isiB k (.b "str") = isStrD x := by
  cases x <;> simp only [kindOf, Option.some.injEq, reduceCtorEq] at h
  case obj a => split at h <;> first | (cases h; rfl) | cases h
  all_goals (subst h; rfl)
theorem kind_int (h : kindOf S x = some k) : isiB k (.b "int") = isIntD x := by
  cases x <;> simp only [kindOf, Option.some.injEq, reduceCtorEq] at h
  case obj a => split at h <;> first | (cases h; rfl) | cases h
  all_goals (subst h; rfl)
theorem kind_bool (h : kindOf S x = some k) : isiB k (.b "bool") = isBlD x := by
  cases x <;> simp only [kindOf, Option.some.injEq, reduceCtorEq] at h
  case obj a => split at h <;> first | (cases h; rfl) | cases h
  all_goals (subst h; rfl)
theorem kind_tuple (h : kindOf S x = some k) : isiB k (.b "tuple") = isTupD x := by
  cases x <;> simp only [kindOf, Option.some.injEq, reduceCtorEq] at h
  case obj a => split at h <;> first | (cases h; rfl) | cases h
  all_goals (subst h; rfl)
end
theorem tru_bl {S : Sto} {b : Bool} : truD S (.bl b) = some b := rfl
theorem tru_int {S : Sto} {i : Int} : truD S (.int i) = some (i != 0) := rfl
theorem tru_non {S : Sto} : truD S .non = some false := rfl
/-! ### operators, opened -/
section
variable {S : Sto} {Q : QV} {a b : Int} {x y : List Nat} {xs ys : List D} {u v : D} {fz : Bool}
theorem o_addI : opS .Add (.int a) (.int b) S Q = Q (.int (a + b)) S := rfl
theorem o_subI : opS .Sub (.int a) (.int b) S Q = Q (.int (a - b)) S := rfl
theorem o_mulI : opS .Mult (.int a) (.int b) S Q = (((-(2 ^ 64) < a ∧ a < 2 ^ 64) ∨ (-(2 ^ 64) < b ∧ b < 2 ^ 64)) ∧ Q (.int (a * b)) S) := rfl
theorem o_divI : opS .FloorDiv (.int a) (.int b) S Q = (0 < b ∧ b < 1073741824 ∧ Q (.int (a / b)) S) := rfl
theorem o_modI : opS .Mod (.int a) (.int b) S Q = (0 < b ∧ Q (.int (a % b)) S) := rfl
theorem o_powI : opS .Pow (.int a) (.int b) S Q = (0 ≤ b ∧ b ≤ 1000000 ∧ a.natAbs < 2 ^ 64 ∧ Q (.int (a ^ b.toNat)) S) := rfl
theorem o_addS : opS .Add (.str x) (.str y) S Q = (x.length + y.length ≤ lim ∧ Q (.str (x ++ y)) S) := rfl
theorem o_addL : opS .Add (.lst xs) (.lst ys) S Q = (xs.length + ys.length ≤ lim ∧ Q (.lst (xs ++ ys)) S) := rfl
theorem o_addT : opS .Add (.tup xs) (.tup ys) S Q = (xs.length + ys.length ≤ lim ∧ Q (.tup (xs ++ ys)) S) := rfl
theorem c_ltI : cmpS .Lt (.int a) (.int b) S Q = Q (.bl (decide (a < b))) S := rfl
theorem c_leI : cmpS .LtE (.int a) (.int b) S Q = Q (.bl (decide (a ≤ b))) S := rfl
theorem c_gtI : cmpS .Gt (.int a) (.int b) S Q = Q (.bl (decide (b < a))) S := rfl
theorem c_geI : cmpS .GtE (.int a) (.int b) S Q = Q (.bl (decide (b ≤ a))) S := rfl
theorem c_ltS : cmpS .Lt (.str x) (.str y) S Q = Q (.bl (decide (x < y))) S := rfl
theorem c_eq : cmpS .Eq u v S Q = ((plain u = true ∧ plain v = true ∧ depth u ≤ 64 ∧ depth v ≤ 64) ∧ Q (.bl (beq u v)) S) := rfl
theorem c_ne : cmpS .NotEq u v S Q = ((plain u = true ∧ plain v = true ∧ depth u ≤ 64 ∧ depth v ≤ 64) ∧ Q (.bl (!beq u v)) S) := rfl
theorem b_lenS : biS fz .len [.str x] S Q = (x.length ≤ lim ∧ Q (.int x.length) S) := rfl
theorem b_lenT : biS fz .len [.tup xs] S Q = ∃ zs, some xs = some zs ∧ Q (.int zs.length) S := rfl
theorem b_lenL : biS fz .len [.lst xs] S Q = ∃ zs, some xs = some zs ∧ Q (.int zs.length) S := rfl
theorem b_lenK : biS fz .len [.lsk xs] S Q = ∃ zs, some xs = some zs ∧ Q (.int zs.length) S := rfl
theorem b_absI : biS fz .abs [.int a] S Q = Q (.int (if a < 0 then -a else a)) S := rfl
theorem b_maxI : biS fz .max2 [.int a, .int b] S Q = Q (.int (if b > a then b else a)) S := rfl
theorem b_minI : biS fz .min2 [.int a, .int b] S Q = Q (.int (if b < a then b else a)) S := rfl
theorem b_intI : biS fz .int [.int a] S Q = Q (.int a) S := rfl
theorem b_intB {k : Bool} : biS fz .int [.bl k] S Q = Q (.int (if k then 1 else 0)) S := rfl
theorem b_tupS : biS fz .tuple [.str x] S Q = (x.length ≤ lim ∧ Q (.tup (x.map fun c => .str [c])) S) := rfl
theorem b_tupL : biS fz .tuple [.lst xs] S Q = ∃ zs, some xs = some zs ∧ Q (.tup zs) S := rfl
theorem b_lstS : biS fz .list [.str x] S Q = (x.length ≤ lim ∧ newL fz (x.map fun c => .str [c]) S Q) := rfl
theorem b_dvm : biS fz .divmod [.int a, .int b] S Q = (0 < b ∧ b < 1073741824 ∧ Q (.tup [.int (a / b), .int (a % b)]) S) := rfl
theorem i_str : subS (.str x) (.int a) S Q = (x.length ≤ lim ∧ ∃ c, atI x a = some c ∧ Q (.str [c]) S) := rfl
theorem i_lst : subS (.lst xs) (.int a) S Q = ∃ zs d, some xs = some zs ∧ atI zs a = some d ∧ Q d S := rfl
theorem i_tup : subS (.tup xs) (.int a) S Q = ∃ zs d, some xs = some zs ∧ atI zs a = some d ∧ Q d S := rfl
theorem i_lsk : subS (.lsk xs) (.int a) S Q = ∃ zs d, some xs = some zs ∧ atI zs a = some d ∧ Q d S := rfl
theorem l_str {lo hi : Option Int} : slS (.str x) lo hi S Q = (x.length ≤ lim ∧ Q (.str (cut x lo hi)) S) := rfl
theorem l_tup {lo hi : Option Int} : slS (.tup xs) lo hi S Q = Q (.tup (cut xs lo hi)) S := rfl
theorem l_lst {lo hi : Option Int} : slS (.lst xs) lo hi S Q = ∃ zs, some xs = some zs ∧ Q (.lst (cut zs lo hi)) S := rfl
theorem l_lsk {lo hi : Option Int} : slS (.lsk xs) lo hi S Q = ∃ zs, some xs = some zs ∧ Q (.lst (cut zs lo hi)) S := rfl
theorem n_frz : newL true xs S Q = Q (.lst xs) S := rfl
theorem n_obj : newL false xs S Q = ∀ p, S p = none → Q (.obj p) (S.set p (.lst xs)) := rfl
theorem r_one {R : List D → (Sto → Prop) → Sto → Prop} : rngS [.int a] S R = ((-(2 ^ 62) ≤ a ∧ a < 2 ^ 62) ∧ R ((List.range a.toNat).map fun (k : Nat) => .int (0 + k)) (fun _ => True) S) := rfl
theorem r_two {R : List D → (Sto → Prop) → Sto → Prop} : rngS [.int a, .int b] S R = ((-(2 ^ 62) ≤ a ∧ a < 2 ^ 62 ∧ -(2 ^ 62) ≤ b ∧ b < 2 ^ 62) ∧ R ((List.range (b - a).toNat).map fun (k : Nat) => .int (a + k)) (fun _ => True) S) := rfl
theorem atI_of {α : Type} {l : List α} {i : Int} (h0 : 0 ≤ i) (h : i < l.length) : atI l i = some (l[i.toNat]'(by omega)) := by
  unfold atI ixN
  rw [if_pos h0, if_pos h]
  exact List.getElem?_eq_getElem _
theorem atI_nat {α : Type} (l : List α) (i : Nat) (h : i < l.length) : atI l (i : Int) = some l[i] := by
  rw [atI_of (by omega) (by omega)]
  congr 1
theorem atI_mem {α : Type} {l : List α} {i : Int} (h0 : 0 ≤ i) (h : i < l.length) : ∃ x, x ∈ l ∧ atI l i = some x := ⟨_, List.getElem_mem _, atI_of h0 h⟩
end
end G
/-! G17: what the top has laid, as facts; the law's own end. -/
namespace G
open PySem PySem.Spec PyProof.Rows L2
section
variable {K : PySem.W.Frag} {mg : Str → Option Value} {h : Heap}
/-- a def of the module stands there -/
def FactFn (K : PySem.W.Frag) (mg : Str → Option Value) (f : Str) (st : Stmt) : Prop := ∃ a fd, mg f = some (.ref a) ∧ FunD K f f (defArgs st) (defBody st) (defScope st) [] [] a fd
/-- a class stands there, with a method -/
def FactMe (K : PySem.W.Frag) (mg : Str → Option Value) (C m qual : Str) (st : Stmt) (dvs : List V) : Prop := ∃ c a fd, mg C = some (.ref c) ∧ Cls K c ∧ Meth K c m a ∧ FunD K m qual (defArgs st) (defBody st) (defScope st) dvs [] a fd
def FactCls (K : PySem.W.Frag) (mg : Str → Option Value) (C : Str) (fs : List Str) : Prop := ∃ c, mg C = some (.ref c) ∧ Cls K c ∧ PySem.W.makesIn K c = true ∧ PySem.W.keepIn K (.ref c) = true ∧ InsTy K c ∧ ∀ f ∈ fs, NoAttr K c f
/-- a method whose last parameter is () by default -/
def FactMeD (K : PySem.W.Frag) (mg : Str → Option Value) (C m qual : Str) (st : Stmt) : Prop := ∃ e, KT K e [] ∧ FactMe K mg C m qual st [.ref e]
end
/-! ### the end -/
theorem cx_false {P : Program} {w : World} {H : Hp} {s : Shared} {e : Value} {s' : Shared} (h : L2N.CX P w [] H s (fun _ _ _ => False) e s') : False := by
  obtain ⟨_, _, _, _, _, _, _, _, _, _, _, _, q⟩ := h
  exact q.elim
/-- a list of at most n ints is handed in, True comes out -/
def spLaw (n : Nat) (K : PySem.W.Frag) : Sp := fun vs H Q _ => ∃ (a : Addr) (ns : List Int), vs = [.ref a] ∧ SqL K H a (ns.map V.int) ∧ ns.length ≤ n ∧ ∀ H', Q (.bl true) H'
theorem law_sp {n : Nat} {K : PySem.W.Frag} {mg : Str → Option Value} {φ : FSp} (hφ : ∀ (ns : List Int) S E, ns.length ≤ n → φ [.lsk (ns.map .int)] S (fun d _ => d = .bl true) E) (vs : List V) (H : Hp) (Q : VK) (E : XK) (h : spLaw n K vs H Q E) :
    spOf K mg φ vs H Q E := by
  obtain ⟨a, ns, rfl, hS, hn, hQ⟩ := h
  have ri : ∀ (S : Sto) (l : List Int), RDs ⟨K, mg, []⟩ S H (l.map .int) (l.map V.int) := fun S l => by
    induction l with
    | nil => exact RDs.nil
    | cons x r ih => exact RDs.cons rd_int ih
  refine ⟨[], [.lsk (ns.map .int)], fun _ => none, fun d _ => d = .bl true, fun _ _ => False, RDs.cons ?_ RDs.nil, ⟨(fun a o e => by cases e), (fun b hb => by cases hb)⟩, hφ ns _ _ hn, ?_, ?_⟩
  · unfold RD
    rcases hS with hS | hS
    · exact ⟨a, _, rfl, .inl ⟨rfl, by simp, hS⟩, ri _ ns⟩
    · exact ⟨a, _, rfl, .inr hS, ri _ ns⟩
  · rintro v d S' H' rd rs st rfl
    rw [rd.ofBl]
    exact hQ H'
  · intro e c dd S' H' rx rs st z
    exact z.elim
/-- the law's def is called behind the top -/
theorem law_g {P : Program} {w : World} {K : PySem.W.Frag} {mg mb : Str → Option Value} {cx : CXT} {k : Nat} {fa a : Addr} {fd : FuncData} {x : Str} {sp : Sp} {t : Shared} {vs : List Value} {ns : List Int}
    (kx : K.In t.heap) (hm : t.heap.Ns mainGlobals mg) (hb : t.heap.Ns builtinsNs mb) (hbb : ∀ x : Str, x ≠ "__name__" → mb x = bootBuiltins x) (nol : t.heap.NoLimit) (hg : t.gens = #[])
    (ha : t.heap.get? a = some { cls := .type "list", data := .seq vs.toArray }) (hi : IntsAre vs ns) (hl : ns.length ≤ sizeLine) (hr : Room k callerA)
    (F : ∀ base : Heap, FnG false P w K mg base cx k fa fd [x] sp) (bt : ∀ (s : Shared) (u : Value), BindsTo s fd ⟨[u], []⟩ [(x, u)])
    (q : ∀ H : Hp, SqL K H a (ns.map V.int) → sp [.ref a] H (fun v _ => v = .bl true) fun _ _ _ => False) (no : ∀ H e s', cx [] H t (fun _ _ _ => False) e s' → False) :
    codeAny (model P w) callerA (.call (.ref fa) ⟨[.ref a], []⟩) (fun r s' => r = .ok (.ret (.bool true)) ∧ OldK t.heap s'.heap ∧ s'.os = t.os ∧ AllBare s'.gens) t := by
  have rv := vals_ints hi
  have lv := hi.length
  have core : ∀ H : Hp, (∀ b u, H b = some u → b = a ∧ u = .frz { cls := .type "list", data := .seq vs.toArray } (.lst (ns.map V.int))) → SqL K H a (ns.map V.int) → (H a ≠ none → K.lookup a = none) →
      codeAny (model P w) callerA (.call (.ref fa) ⟨[.ref a], []⟩) (fun r s' => r = .ok (.ret (.bool true)) ∧ OldK t.heap s'.heap ∧ s'.os = t.os ∧ AllBare s'.gens) t := by
    intro H only sq nk
    have ok : HOk P w H t.heap := fun b u e => by
      obtain ⟨rfl, rfl⟩ := only b u e
      exact ⟨ha, by rw [List.length_map]; exact hl, vs, _, rv, ha⟩
    have un : ∀ {b : Addr} {o : Obj}, t.heap.get? b = some o → (∀ xs n, o.data ≠ .seq xs n) → H b = none := fun {b o} e nd => by
      cases z : H b with
      | none => rfl
      | some u =>
        obtain ⟨rfl, _⟩ := only b u z
        rw [ha] at e
        cases e
        exact absurd rfl (nd _ _)
    have nsb : ∀ {b : Addr} {m : Str → Option Value}, t.heap.Ns b m → (hidT t.heap H).Ns b m := fun {b m} ⟨o, es, ep, e, d, r⟩ => ⟨o, es, ep, hidT_get e (un e fun xs n z => by rw [d] at z; cases z), d, r⟩
    have kb : K.In (hidT t.heap H) := fun b o e => hidT_get (kx b o e) (by
      cases z : H b with
      | none => rfl
      | some u =>
        obtain ⟨rfl, _⟩ := only b u z
        rw [nk (by rw [z]; exact fun y => nomatch y)] at e
        cases e)
    obtain ⟨mc, m1, m2⟩ := nol
    have md : Mod K mg (hidT t.heap H) := ⟨kb, nsb hm, ⟨mb, nsb hb, hbb⟩, mc, nsb m1, m2⟩
    have e0 : Env0 P w K mg (hidT t.heap H) callerA [] t H := ⟨rfl, md, fun b o e => of_hidT e, Nat.le_of_eq (hidT_size _ _), trivial, (fun b hb => nomatch hb), ok, .of_eq hg⟩
    have z := (F (hidT t.heap H)).goes callerA [] t H ⟨[.ref a], []⟩ [.ref a] [.ref a] _ _ rfl (RoomB.of hr) (fun z => by cases z) e0 (bt t (.ref a)) (.cons rfl .nil) (q H sq)
    refine codeAny_mono z fun o s' ho => ?_
    match o, ho with
    | .error e, ho => exact (no H e s' ho).elim
    | .ok .next, ho => exact (show False from ho).elim
    | .ok .brk, ho => exact (show False from ho).elim
    | .ok .cont, ho => exact (show False from ho).elim
    | .ok (.ret u), ho =>
      obtain ⟨v, H', os, bare, un', ok', rv', q'⟩ := ho
      have q'' : v = .bl true := q'
      subst q''
      obtain rfl : u = Value.bool true := rv'
      refine ⟨rfl, OldK.of_keep fun b o e => ?_, os, bare⟩
      cases y : H b with
      | none => exact un'.keep b o e y (fun z => nomatch z) (fun z => nomatch z)
      | some u =>
        obtain ⟨rfl, rfl⟩ := only b u y
        have y' := un'.frzs _ _ _ y
        obtain ⟨e1, _⟩ := ok' _ _ y'
        rw [ha] at e
        cases e
        exact e1
  cases hk : K.lookup a with
  | some o =>
    have e := kx a o hk
    rw [ha] at e
    cases e
    refine core (fun _ => none) (fun b u z => nomatch z) (.inr ⟨_, vs.toArray, _, hk, rfl, rfl, rfl, ?_, ?_⟩) fun z => absurd rfl z
    · rw [List.size_toArray, lv]; exact hl
    · simpa using rv
  | none =>
    let u0 : HO := .frz { cls := .type "list", data := .seq vs.toArray } (.lst (ns.map V.int))
    refine core (fun b => if b = a then some u0 else none) (fun b u z => ?_) (.inl (.inr ⟨_, if_pos rfl⟩)) fun _ => hk
    by_cases hb : b = a
    · have z' := (if_pos hb).symm.trans z
      cases z'
      exact ⟨hb, rfl⟩
    · have z' := (if_neg hb).symm.trans z
      cases z'
end G
/-! G18: the classes whose kinds are asked; how a law's table gets its facts. -/
namespace G
open PySem L2
section
variable {K : PySem.W.Frag} {mg : Str → Option Value} {h : Heap}
/-- an own class, for isinstance: not there, or a plain class apart from the builtin kinds -/
def FactOwn (K : PySem.W.Frag) (mg : Str → Option Value) (C : Str) : Prop := mg C = none ∨ ∃ c, mg C = some (.ref c) ∧ InsTy K c ∧ ((PySem.W.clsIn K c).isSome && PySem.W.typeIn K (.ref c) == some (.type "type")) = true ∧ (∀ m ∈ biTys, PySem.W.subIn K (.ref c) (.type m) = some false) ∧ PySem.W.subIn K (.ref c) (.ref c) = some true
def FactTwo (K : PySem.W.Frag) (mg : Str → Option Value) (C C' : Str) : Prop := ∀ c c', mg C = some (.ref c) → mg C' = some (.ref c') → PySem.W.subIn K (.ref c') (.ref c) = some false ∧ PySem.W.subIn K (.ref c) (.ref c') = some false
theorem own_no {C : Str} (X : K.In h) (G : h.Ns mainGlobals mg) (n : PySem.W.nsIn K mainGlobals C = some none) : FactOwn K mg C := .inl (PySem.W.mg_none_of X G n)
theorem own_yes {C : Str} {fs : List Str} {c : Addr} (f : FactCls K mg C fs) (X : K.In h) (G : h.Ns mainGlobals mg) (n : PySem.W.nsIn K mainGlobals C = some (some (.ref c))) (h2 : PySem.W.typeIn K (.ref c) = some (.type "type"))
    (m1 : PySem.W.subIn K (.ref c) (.type "int") = some false) (m2 : PySem.W.subIn K (.ref c) (.type "str") = some false) (m3 : PySem.W.subIn K (.ref c) (.type "bool") = some false) (m4 : PySem.W.subIn K (.ref c) (.type "tuple") = some false) (m5 : PySem.W.subIn K (.ref c) (.type "list") = some false) (m6 : PySem.W.subIn K (.ref c) (.type "dict") = some false)
    (ms : PySem.W.subIn K (.ref c) (.ref c) = some true) : FactOwn K mg C := by
  obtain ⟨c', g1, _, _, _, g2, _⟩ := f
  rw [PySem.W.mg_of X G n] at g1
  cases g1
  have h1 : (PySem.W.clsIn K c).isSome = true := by
    have z : (PySem.W.clsIn K c).bind _ = some true := ms
    cases e : PySem.W.clsIn K c with
    | none => rw [e] at z; cases z
    | some _ => rfl
  refine .inr ⟨c, PySem.W.mg_of X G n, g2, by rw [h1, h2]; decide, fun m hm => ?_, ms⟩
  simp only [biTys, List.mem_cons, List.not_mem_nil, or_false] at hm
  rcases hm with rfl | rfl | rfl | rfl | rfl | rfl <;> assumption
theorem two_no {C C' : Str} (X : K.In h) (G : h.Ns mainGlobals mg) (n : PySem.W.nsIn K mainGlobals C' = some none) : FactTwo K mg C C' := fun _ _ _ e => by
  rw [PySem.W.mg_none_of X G n] at e
  cases e
theorem meta_bi : ∀ m ∈ biTys, PySem.W.kitMeta m = true := by decide +kernel
theorem sub_bi (c : Addr) : ∀ n ∈ kdN, PySem.W.subIn K (.type n) (.ref c) = some false := by
  intro n hn
  simp only [kdN, List.mem_cons, List.not_mem_nil, or_false] at hn
  rcases hn with rfl | rfl | rfl | rfl | rfl | rfl | rfl <;> rfl
theorem own_all (o1 : FactOwn K mg "Board") (o2 : FactOwn K mg "Wall") (o3 : FactOwn K mg "Desk") (t1 : FactTwo K mg "Board" "Wall") (t2 : FactTwo K mg "Board" "Desk") (t3 : FactTwo K mg "Wall" "Desk") :
    ∀ C ∈ clN, ∀ c, mg C = some (.ref c) → InsTy K c ∧ (∀ m ∈ biTys, PySem.W.kitOne K (.ref c) (.type m) = some false) ∧ (∀ n ∈ kdN, PySem.W.kitOne K (.type n) (.ref c) = some false) ∧ ∀ C' ∈ clN, ∀ c', mg C' = some (.ref c') → PySem.W.kitOne K (.ref c') (.ref c) = some (C' == C) := by
  have own : ∀ C ∈ clN, FactOwn K mg C := by
    intro C hC
    simp only [clN, List.mem_cons, List.not_mem_nil, or_false] at hC
    rcases hC with rfl | rfl | rfl <;> assumption
  have two : ∀ C ∈ clN, ∀ C' ∈ clN, C' ≠ C → ∀ c c', mg C = some (.ref c) → mg C' = some (.ref c') → PySem.W.subIn K (.ref c') (.ref c) = some false := by
    intro C hC C' hC' ne c c' e e'
    simp only [clN, List.mem_cons, List.not_mem_nil, or_false] at hC hC'
    rcases hC with rfl | rfl | rfl <;> rcases hC' with rfl | rfl | rfl
    · exact absurd rfl ne
    · exact (t1 c c' e e').1
    · exact (t2 c c' e e').1
    · exact (t1 c' c e' e).2
    · exact absurd rfl ne
    · exact (t3 c c' e e').1
    · exact (t2 c' c e' e).2
    · exact (t3 c' c e' e).2
    · exact absurd rfl ne
  intro C hC c e
  rcases own C hC with z | ⟨c0, e0, i, cl, bi, se⟩
  · rw [z] at e; cases e
  rw [e0] at e
  cases e
  refine ⟨i, fun m hm => ?_, fun n hn => ?_, fun C' hC' c' e' => ?_⟩
  · unfold PySem.W.kitOne PySem.W.kitCls
    rw [if_neg (by simp)]
    show (if PySem.W.kitMeta m = true then PySem.W.subIn K (.ref c) (.type m) else none) = some false
    rw [if_pos (meta_bi m hm)]
    exact bi m hm
  · unfold PySem.W.kitOne PySem.W.kitCls
    rw [if_neg (by simp)]
    dsimp only
    rw [if_pos cl]
    exact sub_bi c n hn
  · by_cases ne : C' = C
    · subst ne
      rw [e0] at e'
      cases e'
      unfold PySem.W.kitOne
      rw [if_pos (by simp)]
      simp
    · have q := two C hC C' hC' ne c c' e0 e'
      have nc : c' ≠ c := fun z => by
        subst z
        rw [se] at q
        cases q
      unfold PySem.W.kitOne PySem.W.kitCls
      rw [if_neg (by simpa using nc)]
      dsimp only
      rw [if_pos cl, q]
      simp [ne]
/-- a constant of the module; fields of a class -/
def ConF (K : PySem.W.Frag) (mg : Str → Option Value) (p : Str × D) : Prop := ∃ v u, mg p.1 = some u ∧ RelV v u ∧ ∀ B S H, RD ⟨K, mg, B⟩ S H p.2 v
def FldF (K : PySem.W.Frag) (mg : Str → Option Value) (p : Str × List Str) : Prop := ∃ c, mg p.1 = some (.ref c) ∧ Cls K c ∧ ∀ f ∈ p.2, NoAttr K c f
theorem con_str' {x : Str} {s : List Nat} (n : ∃ t, mg x = some (.str (mkS s) t)) (hc : (s.all fun c => decide (c < 0x110000)) = true) : ConF K mg (x, .str s) := by
  obtain ⟨t, n⟩ := n
  exact ⟨.str (mkS s), _, n, ⟨t, rfl⟩, fun B S H => rd_str fun c hc' => by simpa using List.all_eq_true.mp hc c hc'⟩
theorem con_int' {x : Str} {i : Int} (n : ∃ t, mg x = some (.int i t)) : ConF K mg (x, .int i) := by
  obtain ⟨t, n⟩ := n
  exact ⟨.int i, _, n, ⟨t, rfl⟩, fun B S H => rd_int⟩
theorem fld_of {C : Str} {fs : List Str} (f : FactCls K mg C fs) : FldF K mg (C, fs) := by
  obtain ⟨c, h1, h2, _, _, _, h3⟩ := f
  exact ⟨c, h1, h2, h3⟩
/-! ### errors -/
theorem Xb.facts : ∀ b : Xb, ExcBaseFacts b.nm b.new b.ini b.tl
  | .val => PySem.F.excBase_ValueError
  | .look => PySem.F.excBase_LookupError
  | .arith => PySem.F.excBase_ArithmeticError
theorem Xb.pas : ∀ (b : Xb) (self : Value), refuseLoop self "__setattr__" b.tl = pure ()
  | .val, _ => by rfl
  | .look, _ => by rfl
  | .arith, _ => by rfl
theorem Xb.hi : ∀ b : Xb, PySem.W.handedIn (.builtin b.ini) = true
  | .val => by decide +kernel
  | .look => by decide +kernel
  | .arith => by decide +kernel
def FactX (K : PySem.W.Frag) (mg : Str → Option Value) (C : Str) (f : Option Str) (sb : Bool) : Prop := ∀ (P : Program) (w : World) (base : Heap), XcOk K mg P w base 2 C f sb
theorem fact_x {C B0 qual : Str} {st : Stmt} {f : Option Str} {sb : Bool} {xb : Xb} {c bc a : Addr} {oc : Value} {od an : Option Addr} {osl : Array (Option Value)} {kV doc pm cdv ct : Value} (X : K.In h) (G : h.Ns mainGlobals mg) (n : PySem.W.nsIn K mainGlobals C = some (some (.ref c))) (nb : PySem.W.nsIn K mainGlobals B0 = some (some (.ref bc)))
    (fi : PySem.W.findIn K (.ref c) "__init__" = some (some (.ref a))) (l : K.lookup a = some ⟨oc, od, .func (PySem.W.fnOf "__init__" qual (defArgs st) (defBody st) (defScope st) .none kV doc pm an cdv ct), osl⟩) (cc : PySem.W.codeIn K cdv qual = true)
    (chk : xOne K c bc a f xb.new xb.ini xb.tl = true) (sn : PySem.W.nsIn K mainGlobals "str" = some none) (ba : BindAll "__init__" qual st (iniN f)) (hi : iniB B0 f sb st = true) : FactX K mg C f sb := by
  intro P w base
  unfold xOne at chk
  simp only [Bool.and_eq_true, decide_eq_true_eq] at chk
  obtain ⟨x1, x2, x3, x4, x5, x6, x7, x8, x9, x10, x11⟩ := chk
  have hf : ∀ z, f = some z → PySem.W.findIn K (.ref c) z = some none := fun z e => by
    subst e
    exact He.eqO_ok x8
  have v : PySem.W.findCls K (.ref bc) (.type "type") "__init__" = some (.val (.builtin xb.ini)) := by
    split at x11
    · rename_i i e
      rw [e, of_decide_eq_true x11]
    · cases x11
  have O : OxC K c xb.nm xb.new xb.ini xb.tl := ⟨xb.facts, oxB_ok x1, xb.pas, by cases xb <;> rfl, He.eqO_ok x2, x3, x4, x5⟩
  exact ⟨c, a, xb.nm, xb.new, xb.ini, xb.tl, _, iniN f, PySem.W.mg_of X G n, O, fi, x6, Binds.all (ba kV doc pm an cdv ct),
    ini_fn O (PySem.W.mg_of X G nb) x9 (He.eqO_ok x10) v xb.hi hf (PySem.W.mg_none_of X G sn) ⟨oc, od, .none, kV, doc, pm, an, cdv, ct, osl, rfl, l, cc⟩ hi, xfB_ok x7, hf⟩
theorem excB_ok {D : Addr} (h : excB K D = true) : ExcC K D := by
  unfold excB at h
  simp only [Bool.and_eq_true, decide_eq_true_eq] at h
  obtain ⟨x1, x2, x3, x4, x5, x6, x7, x8⟩ := h
  exact ⟨He.eqO_ok x1, He.eqO_ok x2, x3, x4, He.eqO_ok x5, He.eqO_ok x6, x7, x8⟩
def xsOf (t : List (Str × List (Str × Bool))) : List ((Str × Str) × Bool) := t.flatMap fun p => p.2.map fun q => ((p.1, q.1), q.2)
theorem xs_ok {t : List (Str × List (Str × Bool))} (X : K.In h) (G : h.Ns mainGlobals mg) (chk : t.all (xsRow K) = true) : ∀ p ∈ xsOf t, ∃ c u, mg p.1.1 = some (.ref c) ∧ ExcC K c ∧ nmV mg p.1.2 u ∧ PySem.W.exmOne K (.ref c) u = some p.2 ∧ PySem.W.kitOne K (.ref c) u = some p.2 := by
  intro p hp
  obtain ⟨r, hr, hm⟩ := List.mem_flatMap.mp hp
  obtain ⟨q, hq, rfl⟩ := List.mem_map.mp hm
  have z := List.all_eq_true.mp chk r hr
  unfold xsRow at z
  split at z
  · rename_i c hc
    obtain ⟨z1, z2⟩ := ands z
    have y := List.all_eq_true.mp z2 q hq
    unfold xsOne at y
    split at y
    · rename_i d hd
      obtain ⟨y1, y2⟩ := ands y
      exact ⟨c, .ref d, PySem.W.mg_of X G hc, excB_ok z1, .inl ⟨d, rfl, PySem.W.mg_of X G hd⟩, of_decide_eq_true y1, of_decide_eq_true y2⟩
    · rename_i hd
      split at y
      · rename_i n hn
        obtain ⟨y0, y⟩ := ands y
        obtain ⟨y1, y2⟩ := ands y
        exact ⟨c, .type n, PySem.W.mg_of X G hc, excB_ok z1, .inr ⟨n, rfl, PySem.W.mg_none_of X G hd, hn, by simpa using y0⟩, of_decide_eq_true y1, of_decide_eq_true y2⟩
      · cases y
    · cases y
  · cases z
def Gone (mg : Str → Option Value) (x : Str) : Prop := mg x = none
theorem gone_of {x : Str} (X : K.In h) (G : h.Ns mainGlobals mg) (n : PySem.W.nsIn K mainGlobals x = some none) : Gone mg x := PySem.W.mg_none_of X G n
theorem bf_of {b : Base} (con : ∀ p ∈ b.con, ConF K mg p) (fld : ∀ p ∈ b.flds, FldF K mg p)
    (own : ∀ C ∈ clN, ∀ c, mg C = some (.ref c) → InsTy K c ∧ (∀ m ∈ biTys, PySem.W.kitOne K (.ref c) (.type m) = some false) ∧ (∀ n ∈ kdN, PySem.W.kitOne K (.type n) (.ref c) = some false) ∧ ∀ C' ∈ clN, ∀ c', mg C' = some (.ref c') → PySem.W.kitOne K (.ref c') (.ref c) = some (C' == C))
    (blt : ∀ x ∈ (["len", "all", "any", "abs", "max", "min", "int", "str", "tuple", "list", "divmod", "isinstance", "range", "enumerate", "zip", "bool", "dict", "sorted", "set", "repr", "sum", "reversed"] : List Str), Gone mg x)
    (xsb : ∀ p ∈ b.xs, ∃ c u, mg p.1.1 = some (.ref c) ∧ ExcC K c ∧ nmV mg p.1.2 u ∧ PySem.W.exmOne K (.ref c) u = some p.2 ∧ PySem.W.kitOne K (.ref c) u = some p.2)
    (spb : ∀ C ∈ b.spc, ∀ cc, mg C = some (.ref cc) → PySem.W.findIn K (.ref cc) "__ne__" = some (some (.builtin "object.__ne__")) ∧ PySem.W.subIn K (.ref cc) (.type "object") = some true)
    (gdb : ∀ p ∈ b.gd, ∃ a, mg p.1 = some (.ref a) ∧ GdAt K a p.2) (rpb : ∀ p ∈ b.rp, ∀ (P : Program) (w : World) (base : Heap), RpOk K mg P w base p.1 p.2) : BF b K mg := ⟨con, fld, own, blt, xsb, spb, gdb, rpb⟩
/-- a def's text: its only parameter, its f-string -/
def rpDef (self : Str) (ps : List Rpt) (st : Stmt) : Bool := scN [self] [self] (defScope st) && glB ((defScope st).names.lookup ("len" : Str)) && !(self == ("__debug__" : Str)) && !(self == ("__classdict__" : Str)) && !(self == ("super" : Str)) && (match defBody st with
  | [.Return (some (.JoinedStr (e1 :: e2 :: es) _)) _] => rpB self (e1 :: e2 :: es) ps
  | _ => false)
theorem rp_ok {C qual self : Str} {st : Stmt} {fs : List Str} {ps : List Rpt} (f : FactMe K mg C "__repr__" qual st []) (fc : FactCls K mg C fs) (hm : mg ("len" : Str) = none) (hd : rpDef self ps st = true) (hf : (rpFs ps).all (fun x => fs.contains x) = true) (hb : BindAll "__repr__" qual st [self]) : ∀ (P : Program) (w : World) (base : Heap), RpOk K mg P w base C ps := by
  intro P w base
  obtain ⟨c, a, fd, h1, h2, h3, F⟩ := f
  obtain ⟨c', h1', cl, _, _, _, na⟩ := fc
  rw [h1] at h1'
  obtain rfl : c = c' := Value.ref.inj (Option.some.inj h1')
  have hb' := binds_all F hb
  obtain ⟨oc, od, dV, kV, doc, pm, an, cdv, ct, osl, rfl, lk, hcd⟩ := FunD.shape F
  refine ⟨c, a, _, self, h1, h3, ?_, hb'⟩
  obtain ⟨hd, h9⟩ := ba2 hd
  obtain ⟨hd, h8⟩ := ba2 hd
  obtain ⟨hd, h7⟩ := ba2 hd
  obtain ⟨hd, h6⟩ := ba2 hd
  obtain ⟨h4, h5⟩ := ba2 hd
  have sco := scope_ok h4
  refine fn_q (N := [self]) lk hcd sco (fun vs H Q E q => ?_) fun A outer s H vs Q E hsp => ?_
  · obtain ⟨_, _, _, _, _, rfl, _⟩ := q
    rfl
  · obtain ⟨x, cc, dx, gs, z, rfl, hmC, hx, hz, hl, q⟩ := hsp
    rw [h1] at hmC
    obtain rfl : c = cc := Value.ref.inj (Option.some.inj hmC)
    split at h9
    · rename_i e1 e2 es p1 p2 eb
      rw [eb]
      obtain ⟨ts, pj, k⟩ := rp_all (X := cxB true (L2N.CX P w) P w K mg base [self] qual (defScope st) a cdv A outer s H E) (self := self) rfl (sco.par self (by simp) |>.elim .inl fun z => .inr (.inl z)) (by simpa using h6) (by simpa using h7) (by simpa using h8) (gl_of h5) hm h9
      refine ⟨_, pss_one (ps_ret (pe_joined pj)), ?_⟩
      refine k _ _ _ x c dx gs z [] rfl hx (fun f hff => na f (by simpa using List.all_eq_true.mp hf f hff)) cl hz (by simpa using hl) ?_
      rw [List.nil_append]
      exact q
    · cases h9
theorem mk_of {C : Str} {fs : List Str} (f : FactCls K mg C fs) : ∀ c, mg C = some (.ref c) → PySem.W.makesIn K c = true ∧ PySem.W.keepIn K (.ref c) = true := fun c e => by
  obtain ⟨c', h1, _, h2, h3, _⟩ := f
  rw [h1] at e
  cases e
  exact ⟨h2, h3⟩
theorem all_nil {α : Type} {P : α → Prop} : ∀ p ∈ ([] : List α), P p := fun p h => by cases h
theorem all_cons {α : Type} {P : α → Prop} {a : α} {l : List α} (h : P a) (t : ∀ p ∈ l, P p) : ∀ p ∈ a :: l, P p := fun p hp => by
  rcases List.mem_cons.mp hp with rfl | hp
  · exact h
  · exact t p hp
/-- a def that is never called by names -/
theorem kw_none {b : Base} {f : Str} (h : b.kw.all (fun p => !(p.1.1 == f)) = true) {st : Stmt} {ps : List Str} : ∀ n ks pl, b.kw.lookup (f, n, ks) = some pl → ∃ is : List Nat, pl = is.map .inl ∧ BindKw f f st ps n ks is := fun n ks pl e => by
  have := List.all_eq_true.mp h _ (look_mem e)
  simp at this
/-- how the table's calls by names bind, one by one -/
theorem kw_by {b : Base} {f : Str} {st : Stmt} {ps : List Str} (h : ∀ p ∈ b.kw, p.1.1 = f → ∃ is : List Nat, p.2 = is.map .inl ∧ BindKw f f st ps p.1.2.1 p.1.2.2 is) :
    ∀ n ks pl, b.kw.lookup (f, n, ks) = some pl → ∃ is : List Nat, pl = is.map .inl ∧ BindKw f f st ps n ks is := fun n ks pl e => h _ (look_mem e) rfl
end
end G
/-! GK: defs whose last parameters are taken by name alone, with defaults. -/
/-! GH: the head by one run: the facts are told by a Hook. -/
namespace G
open PySem PySem.Spec PyProof.Rows L2
theorem ckObs_eq {cs : List Chk} {fn : List He.DefD} {g : Addr → Option Obj} {s : Shared} (h : ∀ a, g a = s.heap.get? a) : ckObs cs fn g = (ckHook cs fn).obs s := by
  have e : g = s.heap.get? := funext h
  rw [e] <;> rfl
theorem CkSays.fact {cs : List Chk} {fn : List He.DefD} {K : PySem.W.Frag} (c : CkSays cs fn K) (i : Nat) {f : Chk} (h : cs[i]? = some f := by rfl) : f K = true := List.all_eq_true.mp c.chk f (List.mem_of_getElem? h)
/-! ### the facts -/
theorem ckEmp_ok {K : PySem.W.Frag} {e : Addr} (h : ckEmp K e = true) : ∃ (o : Obj) (n : Nat), K.lookup e = some o ∧ o.cls = .type "tuple" ∧ o.data = .seq #[] n := by
  unfold ckEmp at h
  split at h
  · rename_i c od its n sl q
    obtain ⟨h1, h2⟩ := He.ba h
    have e1 := of_decide_eq_true h1
    have e2 := of_decide_eq_true h2
    subst e1
    exact ⟨_, n, q, rfl, by rw [Array.eq_empty_of_size_eq_zero e2]⟩
  · cases h
section
variable {K : PySem.W.Frag} {mg : Str → Option Value} {h : Heap}
theorem ck_int {x : Str} {i : Int} (X : K.In h) (G : h.Ns mainGlobals mg) (c : ckInt x i K = true) : ∃ t, mg x = some (.int i t) := He.int_ok X G c
theorem ck_str {x z : Str} (X : K.In h) (G : h.Ns mainGlobals mg) (c : ckStr x z K = true) : ∃ t, mg x = some (.str z t) := He.str_ok X G c
theorem ck_free {x : Str} (c : ckFree x K = true) : PySem.W.nsIn K mainGlobals x = some none := He.eqO_ok c
theorem ck_xs {t : List (Str × List (Str × Bool))} (c : ckXs t K = true) : t.all (xsRow K) = true := c
theorem ck_cls {C : Str} {fs : List Str} (X : K.In h) (G : h.Ns mainGlobals mg) (c : ckCls C fs K = true) : FactCls K mg C fs := by
  obtain ⟨c1, c⟩ := He.ba c
  obtain ⟨c2, c⟩ := He.ba c
  obtain ⟨c3, c⟩ := He.ba c
  obtain ⟨c4, c⟩ := He.ba c
  obtain ⟨c5, c⟩ := He.ba c
  obtain ⟨c6, c⟩ := He.ba c
  obtain ⟨c7, c⟩ := He.ba c
  obtain ⟨c8, c9⟩ := He.ba c
  have cl := He.cls_ok c2
  exact ⟨_, He.glo_ok X G c1, cl, c3, c4, ⟨cl, He.eqO_ok c5, He.eqO_ok c6, of_decide_eq_true c7, of_decide_eq_true c8⟩, fun f hf => He.noat_ok (List.all_eq_true.mp c9 f hf)⟩
theorem ck_own {C : Str} {fs : List Str} (X : K.In h) (G : h.Ns mainGlobals mg) (f : FactCls K mg C fs) (c : ckOwn C K = true) : FactOwn K mg C := by
  obtain ⟨c1, c⟩ := He.ba c
  obtain ⟨c2, c⟩ := He.ba c
  obtain ⟨c3, c4⟩ := He.ba c
  have m : ∀ t ∈ biTys, PySem.W.subIn K (.ref (He.ga K C)) (.type t) = some false := fun t ht => of_decide_eq_true (List.all_eq_true.mp c3 t ht)
  exact own_yes f X G (He.eqO_ok c1) (of_decide_eq_true c2) (m _ (by decide)) (m _ (by decide)) (m _ (by decide)) (m _ (by decide)) (m _ (by decide)) (m _ (by decide)) (of_decide_eq_true c4)
theorem ck_not {C : Str} (X : K.In h) (G : h.Ns mainGlobals mg) (c : ckFree C K = true) : FactOwn K mg C := own_no X G (ck_free c)
variable {cs : List Chk} {fn : List He.DefD}
theorem ck_fn {f : Str} {st : Stmt} (X : K.In h) (G : h.Ns mainGlobals mg) (c : ckGlo f K = true) (d : ∃ fd, FunD K f f (defArgs st) (defBody st) (defScope st) [] [] (He.ga K f) fd) : FactFn K mg f st := by
  obtain ⟨fd, F⟩ := d
  exact ⟨_, fd, He.glo_ok X G c, F⟩
theorem ck_me {C m qual : Str} {st : Stmt} (X : K.In h) (G : h.Ns mainGlobals mg) (c : ckMe C m K = true) (d : ∃ fd, FunD K m qual (defArgs st) (defBody st) (defScope st) [] [] (He.ma K (He.ga K C) m) fd) : FactMe K mg C m qual st [] := by
  obtain ⟨fd, F⟩ := d
  obtain ⟨c1, c⟩ := He.ba c
  obtain ⟨c2, c3⟩ := He.ba c
  exact ⟨_, _, fd, He.glo_ok X G c1, He.cls_ok c2, He.meth_ok c3, F⟩
theorem ck_meD {C m qual : Str} {st : Stmt} (X : K.In h) (G : h.Ns mainGlobals mg) (c : ckMeD C m K = true) (d : ∃ fd, FunD K m qual (defArgs st) (defBody st) (defScope st) [.ref (He.dflAt (C, some m) 0 K)] [] (He.ma K (He.ga K C) m) fd) : ∃ e, KT K e [] ∧ FactMe K mg C m qual st [.ref e] := by
  obtain ⟨fd, F⟩ := d
  obtain ⟨c0, c4⟩ := He.ba c
  obtain ⟨c1, c⟩ := He.ba c0
  obtain ⟨c2, c3⟩ := He.ba c
  obtain ⟨o, n, q1, q2, q3⟩ := ckEmp_ok c4
  exact ⟨_, ⟨o, #[], n, q1, q2, q3, Nat.zero_le _, .nil⟩, _, _, fd, He.glo_ok X G c1, He.cls_ok c2, He.meth_ok c3, F⟩
theorem ck_xc {C B0 qual : Str} {st : Stmt} {f : Option Str} {sb : Bool} (xb : Xb) (X : K.In h) (G : h.Ns mainGlobals mg) (ba : BindAll "__init__" qual st (iniN f)) (hi : iniB B0 f sb st = true) (c : ckXc C B0 f xb K = true)
    (d : ∃ fd, FunD K "__init__" qual (defArgs st) (defBody st) (defScope st) [] [] (He.ma K (He.ga K C) "__init__") fd) : FactX K mg C f sb := by
  obtain ⟨fd, ⟨oc, od, dV, kV, doc, pm, an, cdv, ct, osl, rfl, l, cc, hD, _⟩, kp⟩ := d
  obtain ⟨c1, c⟩ := He.ba c
  obtain ⟨c2, c⟩ := He.ba c
  obtain ⟨c3, c⟩ := He.ba c
  obtain ⟨c4, c5⟩ := He.ba c
  rcases hD with ⟨_, rfl⟩ | ⟨e, _⟩
  · exact fact_x (xb := xb) X G (He.eqO_ok c1) (He.eqO_ok c2) (He.eqO_ok c3) l cc c4 (He.eqO_ok c5) ba hi
  · exact absurd rfl e
end
theorem ck_walk {l : PySem.W.OpenLaw} {n k : Nat} {q : Program} {loose : List Str} {XP : (Str → Option Value) → Heap → Prop} {cs : List Chk} {fn : List He.DefD} {d : DefRec} {x : Str} (hn : l.most = some n) (hn2 : n ≤ sizeLine) (hdf : d.params.defaults = []) (hr : Room k callerA)
    (F : ∀ (w : World) (mg : Str → Option Value) (fa : Addr) (h : Heap) (K : PySem.W.Frag), K.In h → CkSays cs fn K → h.Ns mainGlobals mg → mg d.name = some (.ref fa) →
      ∃ φ : FSp, (∀ (ns : List Int) S E, ns.length ≤ n → φ [.lsk (ns.map .int)] S (fun d _ => d = .bl true) E) ∧ ∃ fd : FuncData, (∀ (s : Shared) (u : Value), BindsTo s fd ⟨[u], []⟩ [(x, u)]) ∧
        ∀ base : Heap, FnG false l.prog w K mg base (L2N.CX l.prog w) k fa fd [x] (spOf K mg φ)) :
    PySem.W.WalkO q loose XP (ckHook cs fn).says l.row.toRowW d [] (fun f vs => PySem.call f vs) := by
  refine Att.attach_call hn hdf fun w s0 s1 mg mb fa o pm cd doc a vs ns G Y ho hd hcd hmg hobj hints hlen hg => ?_
  obtain ⟨K, kx, c⟩ := Y
  obtain ⟨φ, h1, fd, h2, h3⟩ := F w mg fa _ K kx c G.T.g hmg
  exact law_g kx G.T.g G.T.b G.T.builtins G.T.nolimit hg hobj hints (Nat.le_trans hlen hn2) hr (fun base => (h3 base).weak fun vs H Q E h => law_sp (n := n) h1 vs H Q E h) h2
    (fun H sq => ⟨a, ns, rfl, sq, hlen, fun _ => rfl⟩) fun H e s' z => cx_false z
/-! ### a world in which one setting is told: the top's run does not hang on it -/
end G
namespace G
open PySem L2
def b_k08_letters : Ss := (.cons (.ret (.const (.str [97, 98, 99, 100, 101, 102, 103, 104, 105, 106, 107, 108, 109, 110, 111, 112, 113, 114, 115, 116, 117, 118, 119, 120, 121, 122]))) .nil)
def n_k08_letters : Nat := 0
def b_k08_look (f0 f1 : Str) : Ss := (.cons (.ret (.meth .join (.const (.str [])) (.cons (.lc true (.sub (.call f0 .nil []) (.call f1 (.cons (.loc 0) (.cons (.const (.int 26)) .nil)) [])) (.name 2) (.range (.cons (.loc 1) .nil)) .no) .nil))) .nil)
def n_k08_look : Nat := 3
def c_k08_part_0 (f0 f1 : Str) : Ss := (.cons (.ret (.meth .join (.const (.str [])) (.cons (.sset true (.lc true (.sub (.call f1 .nil []) (.call f0 (.cons (.loc 0) (.cons (.const (.int 26)) .nil)) [])) (.name 1) (.range (.cons (.call f0 (.cons (.loc 0) (.cons (.const (.int 4)) .nil)) []) .nil)) .no)) .nil))) .nil)
def b_k08_part (f0 f1 : Str) : Ss := (.cons (.ife (.cmp .Eq (.call f0 (.cons (.loc 0) (.cons (.const (.int 16)) .nil)) []) (.const (.int 5))) (.cons (.ret (.call f1 .nil [])) .nil) .nil) (c_k08_part_0 f0 f1))
def n_k08_part : Nat := 2
def c_k08_odd_0 (f0 f1 : Str) : Ss := (.cons (.ret (.sub (.loc 1) (.call f1 (.cons (.loc 0) (.cons (.const (.int 28)) .nil)) []))) .nil)
def c_k08_odd_1 (f0 f1 : Str) : Ss := (.cons (.asg (.name 1) (.bin .Add (.loc 1) (.lst true (.cons (.tup (.cons (.const .non) .nil)) (.cons (.bin .Pow (.const (.int 10)) (.const (.int 30))) (.cons (.tup (.cons (.const (.str [])) .nil)) (.cons (.tup (.cons (.const (.str [98])) (.cons (.const (.str [97])) .nil))) (.cons (.call f0 .nil []) (.cons (.tup (.cons (.const (.str [65])) .nil)) (.cons (.tup (.cons (.dct true .nil) .nil)) .nil)))))))))) (c_k08_odd_0 f0 f1))
def b_k08_odd (f0 f1 : Str) : Ss := (.cons (.asg (.name 1) (.lst true (.cons (.const .non) (.cons (.const (.bl true)) (.cons (.const (.bl false)) (.cons (.const (.int 0)) (.cons (.const (.int 7)) (.cons (.const (.str [])) (.cons (.const (.str [65])) (.cons (.const (.str [97])) (.cons (.const (.str [97, 98])) (.cons (.const (.str [98, 97])) (.cons (.const (.str [97, 97])) (.cons (.const (.str [97, 32])) (.cons (.const (.str [49])) (.cons (.const (.str [46])) (.cons (.const (.str [97, 10])) (.cons (.tup .nil) (.cons (.tup (.cons (.const (.str [97])) .nil)) (.cons (.lst true .nil) (.cons (.lst true (.cons (.const (.str [97])) .nil)) (.cons (.dct true .nil) (.cons (.tup (.cons (.lst true .nil) .nil)) .nil))))))))))))))))))))))) (c_k08_odd_1 f0 f1))
def n_k08_odd : Nat := 2
def c_k08_blook_0 (f0 f1 : Str) : Ss := (.cons (.ret (.sub (.lst true (.cons (.bin .Add (.loc 1) (.const (.str [97]))) (.cons (.sl (.loc 1) (.yes (.const (.int 1))) .no) (.cons (.bi true .list (.cons (.loc 1) .nil)) (.cons (.bi true .tuple (.cons (.loc 1) .nil)) (.cons (.call f1 (.cons (.loc 0) .nil) []) .nil)))))) (.bin .Sub (.loc 4) (.const (.int 3))))) .nil)
def c_k08_blook_1 (f0 f1 : Str) : Ss := (.cons (.ife (.cmp .Lt (.loc 4) (.const (.int 3))) (.cons (.ret (.bin .Add (.bin .Add (.sl (.loc 1) .no (.yes (.loc 3))) (.loc 2)) (.sl (.loc 1) (.yes (.bin .Add (.loc 3) (.const (.int 1)))) .no))) .nil) .nil) (c_k08_blook_0 f0 f1))
def c_k08_blook_2 (f0 f1 : Str) : Ss := (.cons (.asg (.name 2) (.sub (.lst true (.cons (.const (.str [65])) (.cons (.const (.str [49])) (.cons (.const (.str [32])) (.cons (.const (.str [10])) (.cons (.const (.str [46])) (.cons (.const (.str [])) (.cons (.const (.str [97, 97])) (.cons (.const (.str [45])) (.cons (.const (.str [123])) (.cons (.const (.str [96])) .nil))))))))))) (.call f0 (.cons (.loc 0) (.cons (.const (.int 10)) .nil)) []))) (c_k08_blook_1 f0 f1))
def b_k08_blook (f0 f1 : Str) : Ss := (.cons (.par 3 4 (.call f0 (.cons (.loc 0) (.cons (.bi true .len (.cons (.loc 1) .nil)) .nil)) []) (.call f0 (.cons (.loc 0) (.cons (.const (.int 8)) .nil)) [])) (c_k08_blook_2 f0 f1))
def n_k08_blook : Nat := 5
def c_k08_bdream_0 (f0 f1 : Str) : Ss := (.cons (.ret (.sub (.lst true (.cons (.bin .Add (.loc 1) (.tup (.cons (.const (.str [])) .nil))) (.cons (.sl (.loc 1) (.yes (.const (.int 1))) .no) (.cons (.bi true .list (.cons (.loc 1) .nil)) (.cons (.call f1 (.cons (.loc 0) .nil) []) .nil))))) (.bin .Sub (.loc 3) (.const (.int 4))))) .nil)
def c_k08_bdream_1 (f0 f1 : Str) : Ss := (.cons (.ife (.cmp .Lt (.loc 3) (.const (.int 4))) (.cons (.ret (.bin .Add (.bin .Add (.sl (.loc 1) .no (.yes (.loc 2))) (.tup (.cons (.call f1 (.cons (.loc 0) .nil) []) .nil))) (.sl (.loc 1) (.yes (.bin .Add (.loc 2) (.const (.int 1)))) .no))) .nil) .nil) (c_k08_bdream_0 f0 f1))
def b_k08_bdream (f0 f1 : Str) : Ss := (.cons (.par 2 3 (.call f0 (.cons (.loc 0) (.cons (.bi true .len (.cons (.loc 1) .nil)) .nil)) []) (.call f0 (.cons (.loc 0) (.cons (.const (.int 8)) .nil)) [])) (c_k08_bdream_1 f0 f1))
def n_k08_bdream : Nat := 4
def b_k08_islet (f0 : Str) : Ss := (.cons (.ret (.bool .And (.cons (.isi (.loc 0) (.b "str")) (.cons (.bi true .all (.cons (.lc true (.cmp .In (.loc 1) (.call f0 .nil [])) (.name 1) (.seq (.loc 0)) .no) .nil)) .nil)))) .nil)
def n_k08_islet : Nat := 2
def b_k08_islook (f0 : Str) : Ss := (.cons (.ret (.bool .And (.cons (.call f0 (.cons (.loc 1) .nil) []) (.cons (.cmp .Eq (.bi true .len (.cons (.loc 1) .nil)) (.loc 0)) .nil)))) .nil)
def n_k08_islook : Nat := 2
def c_k08_isdream_0 (f0 : Str) : Ss := (.cons (.ret (.bi true .all (.cons (.lc true (.cmp .Eq (.bi true .list (.cons (.loc 2) .nil)) (.sset true (.loc 2))) (.name 2) (.seq (.loc 1)) .no) .nil))) .nil)
def c_k08_isdream_1 (f0 : Str) : Ss := (.cons (.ife (.not (.bi true .all (.cons (.lc true (.call f0 (.cons (.loc 2) .nil) []) (.name 2) (.seq (.loc 1)) .no) .nil))) (.cons (.ret (.const (.bl false))) .nil) .nil) (c_k08_isdream_0 f0))
def c_k08_isdream_2 (f0 : Str) : Ss := (.cons (.ife (.cmp .NotEq (.bi true .len (.cons (.loc 1) .nil)) (.loc 0)) (.cons (.ret (.const (.bl false))) .nil) .nil) (c_k08_isdream_1 f0))
def b_k08_isdream (f0 : Str) : Ss := (.cons (.ife (.not (.isi (.loc 1) (.b "tuple"))) (.cons (.ret (.const (.bl false))) .nil) .nil) (c_k08_isdream_2 f0))
def n_k08_isdream : Nat := 3
def b_k08_truth : Ss := (.cons (.ret (.bool .And (.cons (.isi (.loc 0) (.b "bool")) (.cons (.cmp .Eq (.loc 0) (.loc 1)) .nil)))) .nil)
def n_k08_truth : Nat := 2
def c_k08_told_0 (f0 f1 f2 : Str) : Ss := (.cons (.ret (.bi true .all (.cons (.lc true (.call f2 (.cons (.sub (.loc 4) (.loc 5)) (.cons (.sub (.loc 3) (.bin .Mod (.loc 5) (.const (.int 2)))) .nil)) []) (.name 5) (.range (.cons (.const (.int 4)) .nil)) .no) .nil))) .nil)
def c_k08_told_1 (f0 f1 f2 : Str) : Ss := (.cons (.expr (.meth .append (.loc 4) (.cons (.callk "is_wish" .nil ["thing", "board"] (.cons (.loc 2) (.cons (.loc 0) .nil)) [.inl 1, .inl 0]) .nil))) (c_k08_told_0 f0 f1 f2))
def c_k08_told_2 (f0 f1 f2 : Str) : Ss := (.cons (.asg (.name 4) (.lst false (.cons (.call "is_picture" (.cons (.loc 0) (.cons (.loc 2) .nil)) []) (.cons (.call "is_wish" (.cons (.loc 0) (.cons (.loc 2) .nil)) []) (.cons (.callk "is_picture" .nil ["thing", "board"] (.cons (.loc 2) (.cons (.loc 0) .nil)) [.inl 1, .inl 0]) .nil))))) (c_k08_told_1 f0 f1 f2))
def b_k08_told (f0 f1 f2 : Str) : Ss := (.cons (.asg (.name 3) (.lst true (.cons (.call f0 (.cons (.loc 1) (.cons (.loc 2) .nil)) []) (.cons (.call f1 (.cons (.loc 1) (.cons (.loc 2) .nil)) []) .nil)))) (c_k08_told_2 f0 f1 f2))
def n_k08_told : Nat := 6
def c_k08_refused_0 (f0 : Str) : Ss := (.cons (.ret (.tup (.cons (.const (.str [116, 111, 108, 100])) (.cons (.const (.str [])) .nil)))) .nil)
def b_k08_refused (f0 : Str) : Ss := (.cons (.tri (.cons (.ife (.cmp .Eq (.loc 0) (.const (.int 0))) (.cons (.expr (.call "is_picture" (.cons (.loc 1) (.cons (.loc 2) .nil)) [])) .nil) (.cons (.ife (.cmp .Eq (.loc 0) (.const (.int 1))) (.cons (.expr (.call "is_wish" (.cons (.loc 1) (.cons (.loc 2) .nil)) [])) .nil) (.cons (.expr (.callk "is_wish" .nil ["thing", "board"] (.cons (.loc 2) (.cons (.loc 1) .nil)) [.inl 1, .inl 0])) .nil)) .nil)) .nil) (.cons ["CoatError", "StandError", "RoomError"] (some 3) (.cons (.ret (.ite (.isx (.loc 3) "NoBoard") (.tup (.cons (.hcall f0 (.cons (.loc 3) .nil)) (.cons (.rpr (.xattr (.loc 3) "board")) .nil))) (.tup (.cons (.hcall f0 (.cons (.loc 3) .nil)) (.cons (.const (.str [])) .nil))))) .nil) .nil)) (c_k08_refused_0 f0))
def n_k08_refused : Nat := 4
def c_law08_0 (f0 f1 f2 f3 f4 f5 f6 f7 f8 f9 : Str) : Ss := (.cons (.ife (.not (.call f8 (.cons (.loc 11) (.cons (.loc 10) (.cons (.sub (.lst true (.cons (.loc 12) (.cons (.loc 13) .nil))) (.bi true .int (.cons (.sub (.loc 6) (.const (.int 1))) .nil))) .nil))) [])) (.cons (.ret (.const (.bl false))) .nil) .nil) .nil)
def c_law08_1 (f0 f1 f2 f3 f4 f5 f6 f7 f8 f9 : Str) : Ss := (.cons (.ife (.cmp .NotEq (.lc true (.call f9 (.cons (.loc 14) (.cons (.loc 4) (.cons (.loc 5) .nil))) []) (.name 14) (.range (.cons (.const (.int 3)) .nil)) .no) (.repl true (.cons (.tup (.cons (.const (.str [98, 111, 97, 114, 100])) (.cons (.rpr (.loc 4)) .nil))) .nil) (.const (.int 3)))) (.cons (.ret (.const (.bl false))) .nil) .nil) (c_law08_0 f0 f1 f2 f3 f4 f5 f6 f7 f8 f9))
def c_law08_2 (f0 f1 f2 f3 f4 f5 f6 f7 f8 f9 : Str) : Ss := (.cons (.asg (.name 5) (.sub (.lst true (.cons (.loc 12) (.cons (.call f7 (.cons (.loc 2) .nil) []) .nil))) (.bi true .int (.cons (.sub (.loc 6) (.const (.int 0))) .nil)))) (c_law08_1 f0 f1 f2 f3 f4 f5 f6 f7 f8 f9))
def c_law08_3 (f0 f1 f2 f3 f4 f5 f6 f7 f8 f9 : Str) : Ss := (.cons (.asg (.name 4) (.sub (.lst true (.cons (.const .non) (.cons (.const (.bl true)) (.cons (.const (.int 0)) (.cons (.const (.str [])) (.cons (.const (.str [98, 111, 97, 114, 100, 32, 49, 32, 49])) (.cons (.tup .nil) (.cons (.lst true .nil) (.cons (.dct true .nil) (.cons (.tup (.cons (.loc 8) (.cons (.loc 9) (.cons (.tup .nil) .nil)))) (.cons (.lst true (.cons (.loc 11) .nil)) (.cons (.tup (.cons (.loc 11) .nil)) (.cons (.loc 12) .nil))))))))))))) (.loc 7))) (c_law08_2 f0 f1 f2 f3 f4 f5 f6 f7 f8 f9))
def c_law08_4 (f0 f1 f2 f3 f4 f5 f6 f7 f8 f9 : Str) : Ss := (.cons (.for (.name 3) (.seq (.lst true (.cons (.loc 12) (.cons (.loc 13) (.cons (.call f5 (.cons (.loc 2) (.cons (.loc 12) .nil)) []) (.cons (.call f6 (.cons (.loc 2) (.cons (.loc 13) .nil)) []) (.cons (.call f7 (.cons (.loc 2) .nil) []) (.cons (.bi true .tuple (.cons (.loc 12) .nil)) .nil)))))))) (.cons (.ife (.not (.call f8 (.cons (.loc 11) (.cons (.loc 10) (.cons (.loc 3) .nil))) [])) (.cons (.ret (.const (.bl false))) .nil) .nil) .nil)) (c_law08_3 f0 f1 f2 f3 f4 f5 f6 f7 f8 f9))
def c_law08_5 (f0 f1 f2 f3 f4 f5 f6 f7 f8 f9 : Str) : Ss := (.cons (.par 12 13 (.call f3 (.cons (.loc 2) (.cons (.loc 10) .nil)) []) (.bi true .tuple (.cons (.lc true (.call f4 (.cons (.loc 2) .nil) []) (.name 15) (.range (.cons (.loc 10) .nil)) .no) .nil))) (c_law08_4 f0 f1 f2 f3 f4 f5 f6 f7 f8 f9))
def c_law08_6 (f0 f1 f2 f3 f4 f5 f6 f7 f8 f9 : Str) : Ss := (.cons (.par 10 11 (.bin .Mult (.loc 8) (.loc 9)) (.make true "Board" (.cons (.loc 8) (.cons (.loc 9) .nil)) [(.tup [])])) (c_law08_5 f0 f1 f2 f3 f4 f5 f6 f7 f8 f9))
def c_law08_7 (f0 f1 f2 f3 f4 f5 f6 f7 f8 f9 : Str) : Ss := (.cons (.par 8 9 (.bin .Add (.const (.int 1)) (.call f2 (.cons (.loc 2) (.cons (.const (.int 6)) .nil)) [])) (.bin .Add (.const (.int 1)) (.call f2 (.cons (.loc 2) (.cons (.const (.int 6)) .nil)) []))) (c_law08_6 f0 f1 f2 f3 f4 f5 f6 f7 f8 f9))
def c_law08_8 (f0 f1 f2 f3 f4 f5 f6 f7 f8 f9 : Str) : Ss := (.cons (.par 6 7 (.lst true (.cons (.cmp .Eq (.call f2 (.cons (.loc 2) (.cons (.const (.int 2)) .nil)) []) (.const (.int 1))) (.cons (.cmp .Eq (.call f2 (.cons (.loc 2) (.cons (.const (.int 2)) .nil)) []) (.const (.int 1))) .nil))) (.call f2 (.cons (.loc 2) (.cons (.const (.int 12)) .nil)) [])) (c_law08_7 f0 f1 f2 f3 f4 f5 f6 f7 f8 f9))
def c_law08_9 (f0 f1 f2 f3 f4 f5 f6 f7 f8 f9 : Str) : Ss := (.cons (.ret (.const (.bl true))) .nil)
def b_law08 (f0 f1 f2 f3 f4 f5 f6 f7 f8 f9 : Str) : Ss := (.cons (.for (.name 1) (.range (.cons (.bi true .max2 (.cons (.const (.int 2)) (.cons (.bi true .min2 (.cons (.bi true .len (.cons (.loc 0) .nil)) (.cons (.const (.int 8)) .nil))) .nil))) .nil)) (.cons (.asg (.name 2) (.call f0 (.cons (.call f1 (.cons (.loc 0) (.cons (.loc 1) .nil)) []) .nil) [])) (c_law08_8 f0 f1 f2 f3 f4 f5 f6 f7 f8 f9))) (c_law08_9 f0 f1 f2 f3 f4 f5 f6 f7 f8 f9))
def n_law08 : Nat := 16
end G
namespace G
open PySem L2
def c_sort1_0 : Ss := (.cons (.ret (.sub (.bin .Add (.loc 5) (.lst true (.cons (.const (.str [99, 111, 117, 110, 116])) (.cons (.const (.str [114, 111, 119])) (.cons (.const (.str [98, 111, 97, 114, 100])) (.cons (.const (.str [98, 97, 110, 100])) (.cons (.const (.str [99, 101, 108, 108])) (.cons (.const (.str [98, 97, 99, 107])) (.cons (.const (.str [119, 97, 121])) (.cons (.const (.str [109, 97, 110, 121])) (.cons (.const (.str [102, 117, 108, 108])) .nil))))))))))) (.loc 4))) .nil)
def c_sort1_1 : Ss := (.cons (.asg (.name 5) (.lst true (.cons (.const (.str [115, 105, 122, 101])) (.cons (.const (.str [98, 97, 110, 100, 115])) (.cons (.const (.str [116, 101, 120, 116])) (.cons (.const (.str [112, 105, 99, 116, 117, 114, 101])) (.cons (.const (.str [119, 105, 115, 104])) (.cons (.const (.str [104, 105, 115, 116, 111, 114, 121])) (.cons (.const (.str [110, 97, 109, 101, 115])) (.cons (.const (.str [114, 117, 108, 101, 115])) (.cons (.const (.str [104, 97, 110, 100, 115])) (.cons (.const (.str [116, 111, 114, 110])) (.cons (.const (.str [99, 101, 108, 108, 115])) (.cons (.const (.str [100, 101, 101, 100])) .nil)))))))))))))) c_sort1_0)
def c_sort1_2 : Ss := (.cons (.ife (.cmp .NotEq (.loc 2) (.lc true (.cmp .Eq (.loc 6) (.bin .Add (.bi true .int (.cons (.cmp .Gt (.loc 4) (.const (.int 13))) .nil)) (.bi true .int (.cons (.cmp .Gt (.loc 4) (.const (.int 18))) .nil)))) (.name 6) (.range (.cons (.const (.int 3)) .nil)) .no)) (.cons (.ret (.const (.str [111, 116, 104, 101, 114]))) .nil) .nil) c_sort1_1)
def c_sort1_3 : Ss := (.cons (.asg (.name 4) (.meth .index (.loc 1) (.cons (.const (.bl true)) .nil))) c_sort1_2)
def c_sort1_4 : Ss := (.cons (.ife (.bool .Or (.cons (.cmp .NotEq (.meth .count (.loc 1) (.cons (.const (.bl true)) .nil)) (.const (.int 1))) (.cons (.cmp .NotEq (.loc 3) (.loc 2)) .nil))) (.cons (.ret (.const (.str [111, 116, 104, 101, 114]))) .nil) .nil) c_sort1_3)
def c_sort1_5 : Ss := (.cons (.asg (.name 3) (.lst true (.cons (.isx (.loc 0) "ValueError") (.cons (.isx (.loc 0) "LookupError") (.cons (.isx (.loc 0) "ArithmeticError") .nil))))) c_sort1_4)
def c_sort1_6 : Ss := (.cons (.asg (.name 2) (.lst true (.cons (.isx (.loc 0) "CoatError") (.cons (.isx (.loc 0) "StandError") (.cons (.isx (.loc 0) "RoomError") .nil))))) c_sort1_5)
def c_sort1_7 : Ss := (.cons (.expr (.meth .append (.loc 1) (.cons (.isx (.loc 0) "Full") .nil))) c_sort1_6)
def c_sort1_8 : Ss := (.cons (.asg (.name 1) (.cat false (.loc 1) (.lst true (.cons (.isx (.loc 0) "NoCell") (.cons (.isx (.loc 0) "NoBack") (.cons (.isx (.loc 0) "NoWay") (.cons (.isx (.loc 0) "TooMany") .nil))))))) c_sort1_7)
def c_sort1_9 : Ss := (.cons (.asg (.name 1) (.cat false (.loc 1) (.lst true (.cons (.isx (.loc 0) "NoCount") (.cons (.isx (.loc 0) "NoRow") (.cons (.isx (.loc 0) "NoBoard") (.cons (.isx (.loc 0) "NoBand") .nil))))))) c_sort1_8)
def c_sort1_10 : Ss := (.cons (.asg (.name 1) (.cat false (.loc 1) (.lst true (.cons (.isx (.loc 0) "NoHands") (.cons (.isx (.loc 0) "NoTorn") (.cons (.isx (.loc 0) "NoCells") (.cons (.isx (.loc 0) "NoDeed") .nil))))))) c_sort1_9)
def c_sort1_11 : Ss := (.cons (.asg (.name 1) (.cat false (.loc 1) (.lst true (.cons (.isx (.loc 0) "NoWish") (.cons (.isx (.loc 0) "NoHistory") (.cons (.isx (.loc 0) "NoNames") (.cons (.isx (.loc 0) "NoRules") .nil))))))) c_sort1_10)
def b_sort1 : Ss := (.cons (.asg (.name 1) (.lst false (.cons (.isx (.loc 0) "NoSize") (.cons (.isx (.loc 0) "NoBands") (.cons (.isx (.loc 0) "NoText") (.cons (.isx (.loc 0) "NoPicture") .nil)))))) c_sort1_11)
def n_sort1 : Nat := 7
end G
/-! GP: wishes opened node by node, for plain proofs over any table. -/
namespace G
open PySem L2
/-- a def, without defaults -/
def Tab.Fn (T : Tab) (f : Str) (φ : FSp) : Prop := T.fn f = some φ ∧ T.dfs f []
def Tab.Mk (T : Tab) (C : Str) (df : List D) (φ : FSp) : Prop := T.me C ini = some φ ∧ T.dfs C df
def Tab.Kw (T : Tab) (f : Str) (n : Nat) (ks : List Str) (pl : List (Nat ⊕ D)) (φ : FSp) : Prop := T.fn f = some φ ∧ T.kw f n ks = some pl
def Tab.Cl (T : Tab) (C : Str) (fs : List Str) : Prop := ∀ f ∈ fs, f ∈ T.flds C
/-- an error's class: its field, whether its word is made of it -/
abbrev Tab.Xc (T : Tab) (C : Str) (f : Option Str) (sb : Bool) : Prop := T.xc C = some (f, sb)
/-- what stands above an error's class, and what doesn't -/
def Tab.Xs (T : Tab) (C : Str) (r : List (Str × Bool)) : Prop := ∀ p ∈ r, T.xs C p.1 = some p.2
theorem Tab.Xs.of {T : Tab} {C : Str} {r : List (Str × Bool)} (h : r.all (fun p => decide (T.xs C p.1 = some p.2)) = true) : T.Xs C r := fun p hp => of_decide_eq_true (List.all_eq_true.mp h p hp)
def Ok (T : Tab) (n : Nat) (b : Ss) (φ : FSp) : Prop := ∀ ds S Q E, φ ds S Q E → wFn T n b ds S Q E
/-- a thing whose kind may be asked -/
def Ak (S : Sto) (x : D) : Prop := ∃ k, kindOf S x = some k ∧ kOk k = true
section
variable {T : Tab} {ex : QE} {es kes : Es} {S : Sto} {φ : FSp} {f : Str}
theorem x_loc {i : Nat} : wX T (.loc i) ex = mkV fun ρ S Q => ∃ d, ρ[i]? = some (some d) ∧ Q d S := rfl
theorem x_const {d : D} : wX T (.const d) ex = mkV fun _ S Q => Q d S := rfl
theorem x_glob {x : Str} : wX T (.glob x) ex = mkV fun _ S Q => ∃ d, T.con x = some d ∧ Q d S := rfl
theorem x_bin {op : Operator} {a b : E} : wX T (.bin op a b) ex = mkV fun ρ S Q => (wX T a ex).v ρ S fun x S1 => (wX T b ex).v ρ S1 fun y S2 => opS op x y S2 Q := rfl
theorem x_neg {a : E} : wX T (.neg a) ex = mkV fun ρ S Q => (wX T a ex).v ρ S fun x S1 => match x with | .int i => Q (.int (-i)) S1 | _ => False := by rw [wX] <;> rfl
theorem x_cmp {op : CmpOp} {a b : E} : wX T (.cmp op a b) ex = mkV fun ρ S Q => (wX T a ex).v ρ S fun x S1 => (wX T b ex).v ρ S1 fun y S2 => cmpS op x y S2 Q := rfl
theorem x_cmp2 {op op' : CmpOp} {a b c : E} : wX T (.cmp2 op op' a b c) ex = mkV fun ρ S Q => (wX T a ex).v ρ S fun x S1 => (wX T b ex).v ρ S1 fun y S2 => cmpS op x y S2 fun z S3 => ∃ k, z = .bl k ∧ if k = true then (wX T c ex).v ρ S3 fun u S4 => cmpS op' y u S4 Q else Q (.bl false) S3 := rfl
theorem x_bool {op : BoolOp} : wX T (.bool op es) ex = wB T op es ex := rfl
theorem x_not {a : E} : wX T (.not a) ex = ⟨fun ρ S Q => (wX T a ex).v ρ S fun d S1 => ∃ b, truD S1 d = some b ∧ Q (.bl (!b)) S1, fun ρ S Q => (wX T a ex).t ρ S fun b S1 => Q (!b) S1⟩ := rfl
theorem x_ite {t a b : E} : wX T (.ite t a b) ex = ⟨fun ρ S Q => (wX T t ex).t ρ S fun k S1 => if k = true then (wX T a ex).v ρ S1 Q else (wX T b ex).v ρ S1 Q, fun _ _ _ => False⟩ := rfl
theorem x_bi {fz : Bool} {b : Bi} : wX T (.bi fz b es) ex = mkV fun ρ S Q => wEs T es ex ρ S fun ds S1 => biS fz b ds S1 Q := rfl
theorem x_meth {m : Me} {o : E} : wX T (.meth m o es) ex = mkV fun ρ S Q => (wX T o ex).v ρ S fun x S1 => meT m x S1 ∧ wEs T es ex ρ S1 fun ds S2 => meS m x ds S2 Q := rfl
theorem x_attr {o : E} : wX T (.attr o f) ex = mkV fun ρ S Q => (wX T o ex).v ρ S fun x S1 => ∃ C fs d, insOf S1 x = some (C, fs) ∧ f ∈ T.flds C ∧ fs.lookup f = some d ∧ Q d S1 := rfl
theorem x_sub {o i : E} : wX T (.sub o i) ex = mkV fun ρ S Q => (wX T o ex).v ρ S fun x S1 => (wX T i ex).v ρ S1 fun y S2 => subS x y S2 Q := rfl
theorem x_sl {o : E} {lo hi : Eo} : wX T (.sl o lo hi) ex = mkV fun ρ S Q => (wX T o ex).v ρ S fun x S1 => wO T lo ex ρ S1 fun l S2 => wO T hi ex ρ S2 fun h S3 => slS x l h S3 Q := rfl
theorem x_tup : wX T (.tup es) ex = mkV fun ρ S Q => wEs T es ex ρ S fun ds S1 => ds.length ≤ lim ∧ Q (.tup ds) S1 := rfl
theorem x_lst {fz : Bool} : wX T (.lst fz es) ex = mkV fun ρ S Q => wEs T es ex ρ S fun ds S1 => ds.length ≤ lim ∧ newL fz ds S1 Q := rfl
theorem x_lc {fz : Bool} {elt : E} {tg : Tg} {it : It} {ifs : Eo} : wX T (.lc fz elt tg it ifs) ex = mkV fun ρ S Q => wI T it ex ρ S fun ds same S1 => wLc (wG tg) (wTo T ifs fun _ _ _ => False) (fun ρ S Q => (wX T elt fun _ _ _ => False).v ρ S Q) same (wipeD ρ (tgSlots tg)) ds [] S1 fun ys S2 => newL fz ys S2 Q := rfl
theorem x_sset {fz : Bool} {a : E} : wX T (.sset fz a) ex = mkV fun ρ S Q => (wX T a ex).v ρ S fun x S1 => ssetS fz x S1 Q := rfl
theorem x_repl {fz : Bool} {b : E} : wX T (.repl fz es b) ex = mkV fun ρ S Q => wEs T es ex ρ S fun ds S1 => ds.length ≤ lim ∧ (wX T b ex).v ρ S1 fun y S2 => replS fz ds y S2 Q := rfl
theorem x_dct {fz : Bool} {ps : Ep} : wX T (.dct fz ps) ex = mkV fun ρ S Q => ∀ a, S a = none → wPs T ps ex ρ (S.set a (.dct [])) fun kvs S1 => S1 a = some (.dct []) ∧ kvs.length ≤ 15 ∧ (kvs.map (·.1)).all (fun d => (toKey d).isSome) = true ∧ (kvs.map fun p => toKey p.1).Nodup ∧ newDc fz a kvs S1 Q := rfl
theorem x_dc {fz : Bool} {kx vx : E} {tg : Tg} {it : It} {ifs : Eo} : wX T (.dc fz kx vx tg it ifs) ex = mkV fun ρ S Q => wI T it ex ρ S fun ds same S1 =>
      wDc (wG tg) (wTo T ifs fun _ _ _ => False) (fun ρ S Q => (wX T kx fun _ _ _ => False).v ρ S Q) (fun ρ S Q => (wX T vx fun _ _ _ => False).v ρ S Q) same (wipeD ρ (tgSlots tg)) ds [] S1 fun kvs S2 => ∀ a, S2 a = none → newDc fz a kvs S2 Q := by rw [wX]
theorem x_rngT : wX T (.rngT es) ex = mkV fun ρ S Q => wEs T es ex ρ S fun ds S1 => rngS ds S1 fun xs _ S2 => xs.length ≤ lim ∧ Q (.tup xs) S2 := rfl
theorem sp_tup {xs : List D} {k : Int} {Q : QV} : stpS (.tup xs) (.int k) S Q = (0 < k ∧ Q (.tup (stepL k.toNat xs)) S) := rfl
theorem c_leS {a b : List Nat} {Q : QV} : cmpS .LtE (.str a) (.str b) S Q = Q (.bl (!decide (b < a))) S := rfl
theorem rv_tup {fz : Bool} {xs : List D} {Q : QV} : revS fz (.tup xs) S Q = Q (.tup xs.reverse) S := rfl
theorem rv_lst {fz : Bool} {xs : List D} {Q : QV} : revS fz (.lst xs) S Q = ∃ zs, some xs = some zs ∧ newL fz zs.reverse S Q := rfl
theorem c_isB {a b : Bool} {Q : QV} : cmpS .Is (.bl a) (.bl b) S Q = Q (.bl (a == b)) S := rfl
theorem and_ex {α : Type} {p : Prop} {x : α} {o : Option α} {P : α → Prop} (hp : p) (ho : o = some x) : (p ∧ ∃ y, o = some y ∧ P y) = P x := by
  subst ho
  simp [hp]
theorem x_call (h : T.Fn f φ) : wX T (.call f es []) ex = mkV fun ρ S Q => wEs T es ex ρ S fun ds S1 => φ ds S1 Q (ex ρ) := by
  rw [wX]
  congr 1
  funext ρ S Q
  rw [and_ex h.2 h.1]
  simp only [List.append_nil]
theorem x_callk {ks : List Str} {pl : List (Nat ⊕ D)} (h : T.Kw f (esLen es) ks pl φ) : wX T (.callk f es ks kes pl) ex = mkV fun ρ S Q => wEs T es ex ρ S fun ds S1 => wEs T kes ex ρ S1 fun us S2 => ds.length = esLen es ∧ us.length = ks.length ∧ φ (pick pl (ds ++ us)) S2 Q (ex ρ) := by
  rw [wX]
  congr 1
  funext ρ S Q
  apply propext
  constructor
  · rintro ⟨φ', h1, _, q⟩
    rw [h.1] at h1
    cases h1
    exact q
  · intro q
    exact ⟨φ, h.1, h.2, q⟩
theorem e_nil {ρ : Sl} {Q : List D → Sto → Prop} : wEs T .nil ex ρ S Q = Q [] S := rfl
theorem e_cons {e : E} {ρ : Sl} {Q : List D → Sto → Prop} : wEs T (.cons e es) ex ρ S Q = (wX T e ex).v ρ S fun d S1 => wEs T es ex ρ S1 fun ds S2 => Q (d :: ds) S2 := rfl
theorem x_callk0 {ks : List Str} {pl : List (Nat ⊕ D)} (h : T.Kw f 0 ks pl φ) : wX T (.callk f .nil ks kes pl) ex = mkV fun ρ S Q => wEs T kes ex ρ S fun us S2 => us.length = ks.length ∧ φ (pick pl us) S2 Q (ex ρ) := by
  rw [x_callk (es := .nil) h]
  congr 1
  funext ρ S Q
  rw [e_nil]
  simp only [List.length_nil, esLen, List.nil_append, true_and]
theorem x_make {fz : Bool} {C : Str} {df : List D} (h : T.Mk C df φ) : wX T (.make fz C es df) ex = mkV fun ρ S Q => wEs T es ex ρ S fun ds S1 => ∀ a, S1 a = none → φ (.obj a :: (ds ++ df)) (S1.set a (.ins C [])) (fun d S2 => d = .non ∧ frz fz a C S2 Q) (ex ρ) := by
  rw [wX]
  congr 1
  funext ρ S Q
  rw [and_ex h.2 h.1]
/-! ### kinds -/
theorem ak_non : Ak S .non ↔ True := ⟨fun _ => trivial, fun _ => ⟨_, rfl, rfl⟩⟩
theorem ak_bl {b : Bool} : Ak S (.bl b) ↔ True := ⟨fun _ => trivial, fun _ => ⟨_, rfl, rfl⟩⟩
theorem ak_int {i : Int} : Ak S (.int i) ↔ True := ⟨fun _ => trivial, fun _ => ⟨_, rfl, rfl⟩⟩
theorem ak_str {s : List Nat} : Ak S (.str s) ↔ True := ⟨fun _ => trivial, fun _ => ⟨_, rfl, rfl⟩⟩
theorem ak_tup {xs : List D} : Ak S (.tup xs) ↔ True := ⟨fun _ => trivial, fun _ => ⟨_, rfl, rfl⟩⟩
theorem ak_lst {xs : List D} : Ak S (.lst xs) ↔ True := ⟨fun _ => trivial, fun _ => ⟨_, rfl, rfl⟩⟩
theorem ak_dct {xs ys : List D} : Ak S (.dct xs ys) ↔ True := ⟨fun _ => trivial, fun _ => ⟨_, rfl, rfl⟩⟩
def isLstD (S : Sto) : D → Bool
  | .lst _ => true
  | .obj a => match S a with | some (.lst _) => true | _ => false
  | _ => false
def isDctD (S : Sto) : D → Bool
  | .dct _ _ => true
  | .exn _ _ _ => true
  | .obj a => match S a with | some (.dct _) => true | _ => false
  | _ => false
def isO (S : Sto) (C : Str) (x : D) : Bool := match insOf S x with
  | some p => p.1 == C
  | none => false
theorem kind_list {x : D} {k : Kd} (h : kindOf S x = some k) : isiB k (.b "list") = isLstD S x := by
  cases x <;> simp only [kindOf, Option.some.injEq, reduceCtorEq] at h
  case obj a => split at h <;> first | (cases h; rename_i e; simp only [isLstD, e]; rfl) | cases h
  all_goals (subst h; rfl)
theorem kind_dict {x : D} {k : Kd} (h : kindOf S x = some k) : isiB k (.b "dict") = isDctD S x := by
  cases x <;> simp only [kindOf, Option.some.injEq, reduceCtorEq] at h
  case obj a => split at h <;> first | (cases h; rename_i e; simp only [isDctD, e]; rfl) | cases h
  all_goals (subst h; rfl)
theorem kind_own {x : D} {k : Kd} {C : Str} (h : kindOf S x = some k) : isiB k (.o C) = isO S C x := by
  cases x <;> simp only [kindOf, Option.some.injEq, reduceCtorEq] at h
  case obj a => split at h <;> first | (cases h; rename_i e; simp only [isO, insOf, e]; rfl) | cases h
  all_goals (subst h; rfl)
theorem isi_of {a : E} {t : Kd} {g : Sto → D → Bool} (ht : tyOk T t) (hk : ∀ S x k, kindOf S x = some k → isiB k t = g S x) : wX T (.isi a t) ex = mkV fun ρ S Q => (wX T a ex).v ρ S fun x S1 => Ak S1 x ∧ Q (.bl (g S1 x)) S1 := by
  rw [wX]
  congr 1
  funext ρ S Q
  apply propext
  have e : (fun x S1 => ∃ k, kindOf S1 x = some k ∧ kOk k = true ∧ Q (.bl (isiB k t)) S1) = fun x S1 => Ak S1 x ∧ Q (.bl (g S1 x)) S1 := by
    funext x S1
    apply propext
    constructor
    · rintro ⟨k, h1, h2, q⟩
      exact ⟨⟨k, h1, h2⟩, by rw [← hk S1 x k h1]; exact q⟩
    · rintro ⟨⟨k, h1, h2⟩, q⟩
      exact ⟨k, h1, h2, by rw [hk S1 x k h1]; exact q⟩
  rw [e]
  exact ⟨fun h => h.2, fun h => ⟨ht, h⟩⟩
theorem x_isiS {a : E} : wX T (.isi a (.b "str")) ex = mkV fun ρ S Q => (wX T a ex).v ρ S fun x S1 => Ak S1 x ∧ Q (.bl (isStrD x)) S1 := isi_of (g := fun _ x => isStrD x) trivial fun _ _ _ h => kind_str h
theorem x_isiI {a : E} : wX T (.isi a (.b "int")) ex = mkV fun ρ S Q => (wX T a ex).v ρ S fun x S1 => Ak S1 x ∧ Q (.bl (isIntD x)) S1 := isi_of (g := fun _ x => isIntD x) trivial fun _ _ _ h => kind_int h
theorem x_isiB {a : E} : wX T (.isi a (.b "bool")) ex = mkV fun ρ S Q => (wX T a ex).v ρ S fun x S1 => Ak S1 x ∧ Q (.bl (isBlD x)) S1 := isi_of (g := fun _ x => isBlD x) trivial fun _ _ _ h => kind_bool h
theorem x_isiT {a : E} : wX T (.isi a (.b "tuple")) ex = mkV fun ρ S Q => (wX T a ex).v ρ S fun x S1 => Ak S1 x ∧ Q (.bl (isTupD x)) S1 := isi_of (g := fun _ x => isTupD x) trivial fun _ _ _ h => kind_tuple h
theorem x_isiL {a : E} : wX T (.isi a (.b "list")) ex = mkV fun ρ S Q => (wX T a ex).v ρ S fun x S1 => Ak S1 x ∧ Q (.bl (isLstD S1 x)) S1 := isi_of trivial fun _ _ _ h => kind_list h
theorem x_isiD {a : E} : wX T (.isi a (.b "dict")) ex = mkV fun ρ S Q => (wX T a ex).v ρ S fun x S1 => Ak S1 x ∧ Q (.bl (isDctD S1 x)) S1 := isi_of trivial fun _ _ _ h => kind_dict h
theorem x_isiO {a : E} {C : Str} (h : tyOk T (.o C)) : wX T (.isi a (.o C)) ex = mkV fun ρ S Q => (wX T a ex).v ρ S fun x S1 => Ak S1 x ∧ Q (.bl (isO S1 C x)) S1 := isi_of h fun _ _ _ h => kind_own h
/-! ### stores -/
theorem i_obj {xs : List D} {p : Addr} {i : D} {Q : QV} (h : S p = some (.lst xs)) : subS (.obj p) i S Q = ∃ k d, i = .int k ∧ atI xs k = some d ∧ Q d S := by
  cases i <;> simp only [subS, h]
theorem put_lst {xs : List D} {p : Addr} {i d : D} {k : Sto → Prop} (h : S p = some (.lst xs)) : putS S (.obj p) i d k = ∃ n j, i = .int n ∧ ixN xs.length n = some j ∧ k (S.set p (.lst (xs.set j d))) := by
  simp only [putS, h]
theorem put_dct' {kvs : List (D × D)} {p : Addr} {i d : D} {k : Sto → Prop} (h : S p = some (.dct kvs)) : putS S (.obj p) i d k = ((toKey i).isSome = true ∧ kvs.length < lim ∧ k (S.set p (.dct (putKD kvs i d)))) := by
  simp only [putS, h]
theorem in_dctO {kvs : List (D × D)} {p : Addr} {x : D} {k : Bool → Prop} (h : S p = some (.dct kvs)) : inS S x (.obj p) k = ((toKey x).isSome = true ∧ k (getK kvs x).isSome) := by
  simp only [inS, h]
theorem Sto.del_set {a : Addr} {o : O} (h : S a = none) : (S.set a o).del a = S := by
  funext b
  unfold Sto.del Sto.set
  split
  · rename_i e; rw [e, h]
  · rfl
end
theorem kS_non : isStrD .non = false := rfl
theorem kS_bl {b : Bool} : isStrD (.bl b) = false := rfl
theorem kS_int {i : Int} : isStrD (.int i) = false := rfl
theorem kS_str {s : List Nat} : isStrD (.str s) = true := rfl
theorem kS_tup {xs : List D} : isStrD (.tup xs) = false := rfl
theorem kS_lst {xs : List D} : isStrD (.lst xs) = false := rfl
theorem kS_dct {xs ys : List D} : isStrD (.dct xs ys) = false := rfl
theorem kS_ins {C : Str} {ns : List Str} {ys : List D} : isStrD (.ins C ns ys) = false := rfl
theorem kS_obj {a : Addr} : isStrD (.obj a) = false := rfl
theorem kI_non : isIntD .non = false := rfl
theorem kI_bl {b : Bool} : isIntD (.bl b) = true := rfl
theorem kI_int {i : Int} : isIntD (.int i) = true := rfl
theorem kI_str {s : List Nat} : isIntD (.str s) = false := rfl
theorem kI_tup {xs : List D} : isIntD (.tup xs) = false := rfl
theorem kI_lst {xs : List D} : isIntD (.lst xs) = false := rfl
theorem kI_dct {xs ys : List D} : isIntD (.dct xs ys) = false := rfl
theorem kI_ins {C : Str} {ns : List Str} {ys : List D} : isIntD (.ins C ns ys) = false := rfl
theorem kI_obj {a : Addr} : isIntD (.obj a) = false := rfl
theorem kB_non : isBlD .non = false := rfl
theorem kB_bl {b : Bool} : isBlD (.bl b) = true := rfl
theorem kB_int {i : Int} : isBlD (.int i) = false := rfl
theorem kB_str {s : List Nat} : isBlD (.str s) = false := rfl
theorem kB_tup {xs : List D} : isBlD (.tup xs) = false := rfl
theorem kB_lst {xs : List D} : isBlD (.lst xs) = false := rfl
theorem kB_dct {xs ys : List D} : isBlD (.dct xs ys) = false := rfl
theorem kB_ins {C : Str} {ns : List Str} {ys : List D} : isBlD (.ins C ns ys) = false := rfl
theorem kB_obj {a : Addr} : isBlD (.obj a) = false := rfl
theorem kT_non : isTupD .non = false := rfl
theorem kT_bl {b : Bool} : isTupD (.bl b) = false := rfl
theorem kT_int {i : Int} : isTupD (.int i) = false := rfl
theorem kT_str {s : List Nat} : isTupD (.str s) = false := rfl
theorem kT_tup {xs : List D} : isTupD (.tup xs) = true := rfl
theorem kT_lst {xs : List D} : isTupD (.lst xs) = false := rfl
theorem kT_dct {xs ys : List D} : isTupD (.dct xs ys) = false := rfl
theorem kT_ins {C : Str} {ns : List Str} {ys : List D} : isTupD (.ins C ns ys) = false := rfl
theorem kT_obj {a : Addr} : isTupD (.obj a) = false := rfl
theorem kL_non {S : Sto} : isLstD S .non = false := rfl
theorem kD_non {S : Sto} : isDctD S .non = false := rfl
theorem kL_bl {S : Sto} {b : Bool} : isLstD S (.bl b) = false := rfl
theorem kD_bl {S : Sto} {b : Bool} : isDctD S (.bl b) = false := rfl
theorem kL_int {S : Sto} {i : Int} : isLstD S (.int i) = false := rfl
theorem kD_int {S : Sto} {i : Int} : isDctD S (.int i) = false := rfl
theorem kL_str {S : Sto} {s : List Nat} : isLstD S (.str s) = false := rfl
theorem kD_str {S : Sto} {s : List Nat} : isDctD S (.str s) = false := rfl
theorem kL_tup {S : Sto} {xs : List D} : isLstD S (.tup xs) = false := rfl
theorem kD_tup {S : Sto} {xs : List D} : isDctD S (.tup xs) = false := rfl
theorem kL_lst {S : Sto} {xs : List D} : isLstD S (.lst xs) = true := rfl
theorem kD_lst {S : Sto} {xs : List D} : isDctD S (.lst xs) = false := rfl
theorem kL_dct {S : Sto} {xs ys : List D} : isLstD S (.dct xs ys) = false := rfl
theorem kD_dct {S : Sto} {xs ys : List D} : isDctD S (.dct xs ys) = true := rfl
theorem kL_ins {S : Sto} {C : Str} {ns : List Str} {ys : List D} : isLstD S (.ins C ns ys) = false := rfl
theorem kD_ins {S : Sto} {C : Str} {ns : List Str} {ys : List D} : isDctD S (.ins C ns ys) = false := rfl
/-! ### more operators, opened -/
section
variable {S : Sto} {Q : QV} {x : D} {c : Nat} {b : List Nat} {ys : List D}
theorem c_inS : cmpS .In (.str [c]) (.str b) S Q = Q (.bl (decide (c ∈ b))) S := rfl
theorem c_niS : cmpS .NotIn (.str [c]) (.str b) S Q = Q (.bl (!decide (c ∈ b))) S := rfl
theorem c_inT : cmpS .In x (.tup ys) S Q = (flat x = true ∧ ys.all flat = true ∧ Q (.bl (ys.any fun z => beq z x)) S) := by
  have e : cmpS .In x (.tup ys) S Q = ∃ zs, some ys = some zs ∧ flat x = true ∧ zs.all flat = true ∧ Q (.bl (zs.any fun z => beq z x)) S := by
    unfold cmpS
    cases x
    case str s => rcases s with _ | ⟨c, _ | ⟨d, r⟩⟩ <;> rfl
    all_goals rfl
  rw [e]
  simp
theorem c_niT : cmpS .NotIn x (.tup ys) S Q = (flat x = true ∧ ys.all flat = true ∧ Q (.bl (!(ys.any fun z => beq z x))) S) := by
  have e : cmpS .NotIn x (.tup ys) S Q = ∃ zs, some ys = some zs ∧ flat x = true ∧ zs.all flat = true ∧ Q (.bl (!(zs.any fun z => beq z x))) S := by
    unfold cmpS
    cases x
    case str s => rcases s with _ | ⟨c, _ | ⟨d, r⟩⟩ <;> rfl
    all_goals rfl
  rw [e]
  simp
theorem c_inL : cmpS .In x (.lst ys) S Q = (flat x = true ∧ ys.all flat = true ∧ Q (.bl (ys.any fun z => beq z x)) S) := by
  have e : cmpS .In x (.lst ys) S Q = ∃ zs, some ys = some zs ∧ flat x = true ∧ zs.all flat = true ∧ Q (.bl (zs.any fun z => beq z x)) S := by
    unfold cmpS
    cases x
    case str s => rcases s with _ | ⟨c, _ | ⟨d, r⟩⟩ <;> rfl
    all_goals rfl
  rw [e]
  simp
theorem c_niL : cmpS .NotIn x (.lst ys) S Q = (flat x = true ∧ ys.all flat = true ∧ Q (.bl (!(ys.any fun z => beq z x))) S) := by
  have e : cmpS .NotIn x (.lst ys) S Q = ∃ zs, some ys = some zs ∧ flat x = true ∧ zs.all flat = true ∧ Q (.bl (!(zs.any fun z => beq z x))) S := by
    unfold cmpS
    cases x
    case str s => rcases s with _ | ⟨c, _ | ⟨d, r⟩⟩ <;> rfl
    all_goals rfl
  rw [e]
  simp
theorem c_eqI {i j : Int} : cmpS .Eq (.int i) (.int j) S Q = Q (.bl (decide (i = j))) S := by
  have e : beq (.int i) (.int j) = decide (i = j) := by
    unfold beq
    by_cases h : i = j
    · subst h; simp
    · rw [decide_eq_false h]; simpa using h
  rw [c_eq, e]
  simp [plain, depth]
theorem c_neI {i j : Int} : cmpS .NotEq (.int i) (.int j) S Q = Q (.bl (!decide (i = j))) S := by
  have e : beq (.int i) (.int j) = decide (i = j) := by
    unfold beq
    by_cases h : i = j
    · subst h; simp
    · rw [decide_eq_false h]; simpa using h
  rw [c_ne, e]
  simp [plain, depth]
theorem c_eqS {i j : List Nat} : cmpS .Eq (.str i) (.str j) S Q = Q (.bl (decide (i = j))) S := by
  have e : beq (.str i) (.str j) = decide (i = j) := by
    unfold beq
    by_cases h : i = j
    · subst h; simp
    · rw [decide_eq_false h]; simpa using h
  rw [c_eq, e]
  simp [plain, depth]
theorem c_neS {i j : List Nat} : cmpS .NotEq (.str i) (.str j) S Q = Q (.bl (!decide (i = j))) S := by
  have e : beq (.str i) (.str j) = decide (i = j) := by
    unfold beq
    by_cases h : i = j
    · subst h; simp
    · rw [decide_eq_false h]; simpa using h
  rw [c_ne, e]
  simp [plain, depth]
theorem c_is : cmpS .Is x .non S Q = Q (.bl (isNon x)) S := by
    unfold cmpS
    cases x
    case str s => rcases s with _ | ⟨c, _ | ⟨d, r⟩⟩ <;> rfl
    all_goals rfl
theorem c_isn : cmpS .IsNot x .non S Q = Q (.bl (!isNon x)) S := by
    unfold cmpS
    cases x
    case str s => rcases s with _ | ⟨c, _ | ⟨d, r⟩⟩ <;> rfl
    all_goals rfl
theorem c_inO {kvs : List (D × D)} {p : Addr} (h : S p = some (.dct kvs)) : cmpS .In x (.obj p) S Q = ((toKey x).isSome = true ∧ Q (.bl (getK kvs x).isSome) S) := by
  have e : cmpS .In x (.obj p) S Q = inS S x (.obj p) fun b => Q (.bl b) S := by
    unfold cmpS
    cases x
    case str s => rcases s with _ | ⟨c, _ | ⟨d, r⟩⟩ <;> rfl
    all_goals rfl
  rw [e, in_dctO h]
theorem i_dct {ks vs : List D} : subS (.dct ks vs) x S Q = ∃ d, (toKey x).isSome = true ∧ getK (ks.zip vs) x = some d ∧ Q d S := by unfold subS; rfl
theorem nn_non : isNon .non = true := rfl
theorem nn_int {i : Int} : isNon (.int i) = false := rfl
theorem nn_str {s : List Nat} : isNon (.str s) = false := rfl
theorem nn_tup : isNon (.tup ys) = false := rfl
theorem nn_lst : isNon (.lst ys) = false := rfl
theorem b_tupT : biS true .tuple [.tup ys] S Q = ∃ zs, some ys = some zs ∧ Q (.tup zs) S := rfl
theorem b_rpr : biS true .repr [x] S Q = ((isC x = true ∧ plain x = true ∧ depth x ≤ 64 ∧ (toPy x).showable = true ∧ (reprD x).length ≤ lim) ∧ Q (.str (reprD x)) S) := by unfold biS; rfl
theorem all_id {α : Type} (l : List α) (f : α → Bool) : (l.map f).all id = l.all f := by rw [List.all_map]; rfl
end
/-! ### dict comprehensions -/
/-! ### purses: three numbers that are drawn from -/
def PS (a : Addr) (S : Sto) : Prop := ∃ s d c : Int, S a = some (.lst [.int s, .int d, .int c])
/-- the purse may be another, nothing else is forgotten -/
def Kp (a : Addr) (S S' : Sto) : Prop := PS a S' ∧ ∀ b o, b ≠ a → S b = some o → S' b = some o
theorem Kp.refl {a : Addr} {S : Sto} (h : PS a S) : Kp a S S := ⟨h, fun _ _ _ e => e⟩
theorem Kp.trans {a : Addr} {A B C : Sto} (h : Kp a A B) (k : Kp a B C) : Kp a A C := ⟨k.1, fun b o n e => k.2 b o n (h.2 b o n e)⟩
theorem Kp.put {a : Addr} {S : Sto} (s d c : Int) : Kp a S (S.set a (.lst [.int s, .int d, .int c])) := ⟨⟨s, d, c, Sto.set_same⟩, fun b o n e => by rw [Sto.set_ne n]; exact e⟩
theorem Kp.new {a p : Addr} {S : Sto} {o : O} (h : PS a S) (hp : S p = none) : Kp a S (S.set p o) := by
  obtain ⟨s, d, c, e⟩ := h
  have ne : a ≠ p := fun z => by rw [z, hp] at e; cases e
  exact ⟨⟨s, d, c, by rw [Sto.set_ne ne]; exact e⟩, fun b u n e' => by rw [Sto.set_ne fun z => by rw [z, hp] at e'; cases e']; exact e'⟩
theorem PS.ne {a p : Addr} {S : Sto} (h : PS a S) (hp : S p = none) : p ≠ a := fun z => by
  obtain ⟨s, d, c, e⟩ := h
  rw [← z, hp] at e; cases e
/-! ### loops over the image of a list -/
theorem wLc_map {α : Type} {set : D → Sl → (Sl → Prop) → Prop} {test : Sl → Sto → (Bool → Sto → Prop) → Prop} {elt : Sl → Sto → QV → Prop} {same : Sto → Prop} {ρ : Sl} {S : Sto} (g : α → D) (keep : α → Bool) (f : α → D) {Q : List D → Sto → Prop} (l : List α) (hs : same S)
    (h : ∀ a ∈ l, ∀ (k1 : D → Sto → Prop) (k0 : Sto → Prop), (keep a = true → k1 (f a) S) → (keep a = false → k0 S) → set (g a) ρ fun ρ1 => test ρ1 S fun b S1 => if b = true then elt ρ1 S1 k1 else k0 S1)
    (hl : l.length ≤ lim) (hq : Q ((l.filter keep).map f) S) : wLc set test elt same ρ (l.map g) [] S Q := by
  have gen : ∀ (l : List α) (acc : List D), (∀ a ∈ l, ∀ (k1 : D → Sto → Prop) (k0 : Sto → Prop), (keep a = true → k1 (f a) S) → (keep a = false → k0 S) → set (g a) ρ fun ρ1 => test ρ1 S fun b S1 => if b = true then elt ρ1 S1 k1 else k0 S1) → acc.length + l.length ≤ lim →
      Q (acc ++ (l.filter keep).map f) S → wLc set test elt same ρ (l.map g) acc S Q := by
    intro l
    induction l with
    | nil => intro acc _ _ q; rw [List.map_nil]; unfold wLc; exact ⟨hs, by simpa using q⟩
    | cons a l ih =>
      intro acc h hl q
      rw [List.map_cons]
      unfold wLc
      rw [List.length_cons] at hl
      refine ⟨hs, h a (by simp) _ _ (fun hk => ⟨by omega, ?_⟩) (fun hk => ?_)⟩
      · refine ih _ (fun b hb => h b (by simp [hb])) (by rw [List.length_append, List.length_singleton]; omega) ?_
        rw [List.filter_cons, if_pos hk, List.map_cons] at q
        simpa using q
      · refine ih _ (fun b hb => h b (by simp [hb])) (by omega) ?_
        rw [List.filter_cons, hk] at q
        simpa using q
  exact gen l [] h (by simpa using hl) (by simpa using hq)
theorem x_cat {T : Tab} {ex : QE} {fz : Bool} {a b : E} : wX T (.cat fz a b) ex = mkV fun ρ S Q => (wX T a ex).v ρ S fun x S1 => (wX T b ex).v ρ S1 fun y S2 => ∃ xs ys, seqL S2 x = some xs ∧ seqL S2 y = some ys ∧ xs.length + ys.length ≤ lim ∧ newL fz (xs ++ ys) S2 Q := rfl
theorem x_hcall {T : Tab} {ex : QE} {es : Es} {f : Str} {φ : FSp} (hh : T.hot f = true) (h : T.Fn f φ) : wX T (.hcall f es) ex = mkV fun ρ S Q => wEs T es ex ρ S fun ds S1 => φ ds S1 Q (ex ρ) := by
  rw [wX]
  congr 1
  funext ρ S Q
  apply propext
  constructor
  · rintro ⟨_, _, φ', h1, q⟩
    rw [h.1] at h1
    cases h1
    exact q
  · intro q
    exact ⟨hh, h.2, φ, h.1, q⟩
theorem x_xattr {T : Tab} {ex : QE} {o : E} {f : Str} : wX T (.xattr o f) ex = mkV fun ρ S Q => (wX T o ex).v ρ S fun x S1 => ∃ C s vs d, x = .exn C [f] vs ∧ vs = [d] ∧ T.xc C = some (some f, s) ∧ Q d S1 := rfl
theorem x_isx {T : Tab} {ex : QE} {a : E} {C : Str} : wX T (.isx a C) ex = mkV fun ρ S Q => (∃ C0 b0, T.xs C0 C = some b0) ∧ (wX T a ex).v ρ S fun x S1 => ∃ C' ns vs b, x = .exn C' ns vs ∧ T.xs C' C = some b ∧ Q (.bl b) S1 := rfl
/-! ### statements, one by one -/
section
variable {T : Tab} {ex : QE} {ρ : Sl} {S : Sto} {N : Nd}
theorem t_expr {e : E} : wS T (.expr e) ex ρ S N = (wX T e ex).v ρ S fun _ S1 => N.nx ρ S1 := rfl
theorem t_ret {e : E} : wS T (.ret e) ex ρ S N = (wX T e ex).v ρ S N.rt := rfl
theorem t_retN : wS T .retN ex ρ S N = N.rt .non S := rfl
theorem t_pass : wS T .pass ex ρ S N = N.nx ρ S := rfl
theorem t_brk : wS T .brk ex ρ S N = N.bk ρ S := rfl
theorem t_cont : wS T .cont ex ρ S N = N.ct ρ S := rfl
theorem t_asg {t : Lh} {e : E} : wS T (.asg t e) ex ρ S N = (wX T e ex).v ρ S fun d S1 => wL T ex t d ρ S1 N.nx := rfl
theorem t_par {i j : Nat} {a b : E} : wS T (.par i j a b) ex ρ S N = (wX T a ex).v ρ S fun x S1 => (wX T b ex).v ρ S1 fun y S2 => N.nx ((ρ.set i (some x)).set j (some y)) S2 := rfl
theorem t_ife {t : E} {a b : Ss} : wS T (.ife t a b) ex ρ S N = (wX T t ex).t ρ S fun k S1 => if k = true then wSs T a ex ρ S1 N else wSs T b ex ρ S1 N := rfl
theorem t_for {t : Tg} {it : It} {b : Ss} : wS T (.for t it b) ex ρ S N = wI T it ex ρ S fun ds same S1 => wFor (wG t) (fun ρ S N => wSs T b ex ρ S N) same N ds ρ S1 := rfl
theorem t_bad : wS T .bad ex ρ S N = False := rfl
theorem t_raise {C f : Str} {sb : Bool} {e : E} (h : T.Xc C (some f) sb) : wS T (.raise C (.cons e .nil)) ex ρ S N = (wX T e ex).v ρ S fun d S1 => strOk sb d ∧ ex ρ ⟨C, [f], [d]⟩ S1 := by
  have h' : T.xc C = some (some f, sb) := h
  rw [wS, h']
  apply propext
  constructor
  · rintro ⟨f', s', e1, q⟩
    cases e1
    simpa only [e_cons, e_nil] using q
  · intro q
    exact ⟨some f, sb, rfl, by simpa only [e_cons, e_nil] using q⟩
theorem t_tri {b : Ss} {h : Hs} : wS T (.tri b h) ex ρ S N = ((∀ C ∈ hsCs h, ∃ C0 b0, T.xs C0 C = some b0) ∧ wSs T b (fun ρ1 e S1 => wHs T h ex ρ1 e S1 N) ρ S N) := rfl
end
theorem at_0 {α : Type} {x : α} {r : List α} : atI (x :: r) 0 = some x := by
  unfold atI ixN
  simp
theorem at_1 {α : Type} {x y : α} {r : List α} : atI (x :: y :: r) 1 = some y := by
  unfold atI ixN
  simp
  rw [if_pos (by omega)]
  rfl
theorem at_2 {α : Type} {x y z : α} {r : List α} : atI (x :: y :: z :: r) 2 = some z := by
  unfold atI ixN
  simp
  rw [if_pos (by omega)]
  rfl
theorem at_3 {α : Type} {x y z u : α} {r : List α} : atI (x :: y :: z :: u :: r) 3 = some u := by
  unfold atI ixN
  simp
  rw [if_pos (by omega)]
  rfl
theorem sb_tup {S : Sto} {Q : QV} {xs : List D} {k : Int} : subS (.tup xs) (.int k) S Q = ∃ d, atI xs k = some d ∧ Q d S := by
  show (∃ zs d, some xs = some zs ∧ atI zs k = some d ∧ Q d S) = _
  simp only [Option.some.injEq, exists_and_left, exists_eq_left']
theorem sb_lst {S : Sto} {Q : QV} {xs : List D} {k : Int} : subS (.lst xs) (.int k) S Q = ∃ d, atI xs k = some d ∧ Q d S := by
  show (∃ zs d, some xs = some zs ∧ atI zs k = some d ∧ Q d S) = _
  simp only [Option.some.injEq, exists_and_left, exists_eq_left']
theorem sb_lsk {S : Sto} {Q : QV} {xs : List D} {k : Int} : subS (.lsk xs) (.int k) S Q = ∃ d, atI xs k = some d ∧ Q d S := by
  show (∃ zs d, some xs = some zs ∧ atI zs k = some d ∧ Q d S) = _
  simp only [Option.some.injEq, exists_and_left, exists_eq_left']
theorem lh_tup {T : Tab} {ex : QE} {r : Lhs} {xs : List D} {ρ : Sl} {S : Sto} {Q : Sl → Sto → Prop} : wL T ex (.tup r) (.tup xs) ρ S Q = (xs.length = lhsLen r ∧ wLs T ex r xs ρ S Q) := by
  rw [wL]
  show (∃ zs, some xs = some zs ∧ _) = _
  simp only [Option.some.injEq, exists_eq_left']
theorem lh_lst {T : Tab} {ex : QE} {r : Lhs} {xs : List D} {ρ : Sl} {S : Sto} {Q : Sl → Sto → Prop} : wL T ex (.tup r) (.lst xs) ρ S Q = (xs.length = lhsLen r ∧ wLs T ex r xs ρ S Q) := by
  rw [wL]
  show (∃ zs, some xs = some zs ∧ _) = _
  simp only [Option.some.injEq, exists_eq_left']
theorem it_str {S : Sto} {s : List Nat} : itemsOf S (.str s) = some (s.map fun c => .str [c]) := rfl
theorem it_tup {S : Sto} {xs : List D} : itemsOf S (.tup xs) = some xs := rfl
theorem it_lst {S : Sto} {xs : List D} : itemsOf S (.lst xs) = some xs := rfl
theorem x_oeq {T : Tab} {ex : QE} {ne : Bool} {C : Str} {a b : E} : wX T (.oeq ne C a b) ex = mkV fun ρ S Q => (ne = true → T.spc C = true) ∧ (wX T a ex).v ρ S fun x S1 => (wX T b ex).v ρ S1 fun y S2 => ocmpS T ne C x y S2 Q := rfl
theorem x_rpr {T : Tab} {ex : QE} {a : E} : wX T (.rpr a) ex = mkV fun ρ S Q => (wX T a ex).v ρ S fun x S1 => rprS T x S1 Q := rfl
theorem f_nil {T : Tab} {ex : QE} {acc : List Nat} {ρ : Sl} {S : Sto} {Q : List Nat → Sto → Prop} : wFs T .nil ex acc ρ S Q = Q acc S := rfl
theorem f_cons {T : Tab} {ex : QE} {acc : List Nat} {e : E} {r : Es} {ρ : Sl} {S : Sto} {Q : List Nat → Sto → Prop} : wFs T (.cons e r) ex acc ρ S Q = ((wX T e ex).v ρ S fun d S1 => ∃ s, txtD d = some s ∧ acc.length + s.length ≤ lim ∧ wFs T r ex (acc ++ s) ρ S1 Q) := rfl
theorem lh_tupS {T : Tab} {ex : QE} {fz : Bool} {n : Nat} {r : Lhs} {d : D} {ρ : Sl} {S : Sto} {Q : Sl → Sto → Prop} : wL T ex (.tupS fz n r) d ρ S Q = (∃ xs, seqOf S d = some xs ∧ lhsLen r ≤ xs.length + 1 ∧ n < lhsLen r ∧ xs.length ≤ 16384 ∧ newL fz ((xs.drop n).take (xs.length + 1 - lhsLen r)) S fun l S1 => wLs T ex r (xs.take n ++ [l] ++ (xs.drop n).drop (xs.length + 1 - lhsLen r)) ρ S1 Q) := rfl
theorem lh_name {T : Tab} {ex : QE} {i : Nat} {d : D} {ρ : Sl} {S : Sto} {Q : Sl → Sto → Prop} : wL T ex (.name i) d ρ S Q = Q (ρ.set i (some d)) S := rfl
theorem lim_0 : (0 ≤ lim) = True := by simp
theorem lim_n1 : (1 ≤ lim) = True := by simp [lim]
theorem lim_n2 : (2 ≤ lim) = True := by simp [lim]
theorem lim_n3 : (3 ≤ lim) = True := by simp [lim]
theorem lim_n4 : (4 ≤ lim) = True := by simp [lim]
theorem lim_n5 : (5 ≤ lim) = True := by simp [lim]
theorem lim_n6 : (6 ≤ lim) = True := by simp [lim]
theorem lim_n7 : (7 ≤ lim) = True := by simp [lim]
theorem lim_n8 : (8 ≤ lim) = True := by simp [lim]
theorem lim_n9 : (9 ≤ lim) = True := by simp [lim]
theorem lim_n10 : (10 ≤ lim) = True := by simp [lim]
theorem lim_n11 : (11 ≤ lim) = True := by simp [lim]
theorem lim_n12 : (12 ≤ lim) = True := by simp [lim]
theorem lim_n13 : (13 ≤ lim) = True := by simp [lim]
theorem lim_n14 : (14 ≤ lim) = True := by simp [lim]
theorem lim_n15 : (15 ≤ lim) = True := by simp [lim]
theorem lim_n16 : (16 ≤ lim) = True := by simp [lim]
theorem lim_n17 : (17 ≤ lim) = True := by simp [lim]
theorem lim_n18 : (18 ≤ lim) = True := by simp [lim]
theorem lim_n19 : (19 ≤ lim) = True := by simp [lim]
theorem lim_n20 : (20 ≤ lim) = True := by simp [lim]
theorem lim_n21 : (21 ≤ lim) = True := by simp [lim]
theorem lim_n22 : (22 ≤ lim) = True := by simp [lim]
theorem lim_n23 : (23 ≤ lim) = True := by simp [lim]
theorem lim_n24 : (24 ≤ lim) = True := by simp [lim]
theorem lim_n25 : (25 ≤ lim) = True := by simp [lim]
theorem lim_n26 : (26 ≤ lim) = True := by simp [lim]
theorem lim_n27 : (27 ≤ lim) = True := by simp [lim]
theorem lim_n28 : (28 ≤ lim) = True := by simp [lim]
theorem lim_n29 : (29 ≤ lim) = True := by simp [lim]
theorem lim_n30 : (30 ≤ lim) = True := by simp [lim]
theorem x_rngL {T : Tab} {ex : QE} {fz : Bool} {es : Es} : wX T (.rngL fz es) ex = mkV fun ρ S Q => wEs T es ex ρ S fun ds S1 => rngS ds S1 fun xs _ S2 => xs.length ≤ lim ∧ newL fz xs S2 Q := rfl
theorem t_par3 {T : Tab} {ex : QE} {ρ : Sl} {S : Sto} {N : Nd} {i j l : Nat} {a b c : E} : wS T (.par3 i j l a b c) ex ρ S N = (wX T a ex).v ρ S fun x S1 => (wX T b ex).v ρ S1 fun y S2 => (wX T c ex).v ρ S2 fun z S3 => N.nx (((ρ.set i (some x)).set j (some y)).set l (some z)) S3 := rfl
theorem o_shlI {S : Sto} {Q : QV} {a b : Int} : opS .LShift (.int a) (.int b) S Q = (0 ≤ b ∧ b ≤ 1000000 ∧ a.natAbs < 2 ^ 64 ∧ Q (.int (a * 2 ^ b.toNat)) S) := rfl
theorem o_shrI {S : Sto} {Q : QV} {a b : Int} : opS .RShift (.int a) (.int b) S Q = (0 ≤ b ∧ Q (.int (a / 2 ^ b.toNat)) S) := rfl
theorem o_andI {S : Sto} {Q : QV} {a b : Int} : opS .BitAnd (.int a) (.int b) S Q = Q (.int (Builtin.bitAnd a b)) S := rfl
theorem b_boolI {fz : Bool} {S : Sto} {Q : QV} {i : Int} : biS fz .bool [.int i] S Q = Q (.bl (i != 0)) S := rfl
theorem b_boolB {fz : Bool} {S : Sto} {Q : QV} {b : Bool} : biS fz .bool [.bl b] S Q = Q (.bl b) S := rfl
theorem rS_nil {T : Tab} {ex : QE} {ρ : Sl} {S : Sto} {N : Nd} : wSs T .nil ex ρ S N = N.nx ρ S := rfl
theorem rS_cons {T : Tab} {ex : QE} {ρ : Sl} {S : Sto} {N : Nd} {s : St} {r : Ss} : wSs T (.cons s r) ex ρ S N = wS T s ex ρ S { N with nx := fun ρ1 S1 => wSs T r ex ρ1 S1 N } := rfl
theorem rE_nil {T : Tab} {ex : QE} {ρ : Sl} {S : Sto} {Q : List D → Sto → Prop} : wEs T .nil ex ρ S Q = Q [] S := rfl
theorem rE_cons {T : Tab} {ex : QE} {ρ : Sl} {S : Sto} {Q : List D → Sto → Prop} {e : E} {es : Es} : wEs T (.cons e es) ex ρ S Q = (wX T e ex).v ρ S fun d S1 => wEs T es ex ρ S1 fun ds S2 => Q (d :: ds) S2 := rfl
end G
namespace G
open PySem L2
def b_is_whole : Ss := (.cons (.ret (.bool .And (.cons (.isi (.loc 0) (.b "int")) (.cons (.not (.isi (.loc 0) (.b "bool"))) .nil)))) .nil)
def n_is_whole : Nat := 1
def b_is_within : Ss := (.cons (.ret (.bool .And (.cons (.call "is_whole" (.cons (.loc 0) .nil) []) (.cons (.cmp2 .LtE .LtE (.loc 1) (.loc 0) (.loc 2)) .nil)))) .nil)
def n_is_within : Nat := 3
def b_are_letters : Ss := (.cons (.ret (.bool .And (.cons (.isi (.loc 0) (.b "str")) (.cons (.cmp2 .LtE .LtE (.const (.int 1)) (.bi true .len (.cons (.loc 0) .nil)) (.loc 1)) (.cons (.bi true .all (.cons (.lc true (.cmp .In (.loc 2) (.glob "LETTERS")) (.name 2) (.seq (.loc 0)) .no) .nil)) .nil))))) .nil)
def n_are_letters : Nat := 3
def b_is_name : Ss := (.cons (.ret (.call "are_letters" (.cons (.loc 0) (.cons (.glob "MOST_NAME") .nil)) [])) .nil)
def n_is_name : Nat := 1
def b_is_rising : Ss := (.cons (.ret (.bi true .all (.cons (.lc true (.cmp .Lt (.loc 1) (.loc 2)) (.tup (.cons (.name 1) (.cons (.name 2) .nil))) (.zip (.loc 0) (.sl (.loc 0) (.yes (.const (.int 1))) .no)) .no) .nil))) .nil)
def n_is_rising : Nat := 3
def b_are_cells : Ss := (.cons (.ret (.bool .And (.cons (.isi (.loc 0) (.b "tuple")) (.cons (.bi true .all (.cons (.lc true (.call "is_within" (.cons (.loc 2) (.cons (.const (.int 0)) (.cons (.bin .Sub (.loc 1) (.const (.int 1))) .nil))) []) (.name 2) (.seq (.loc 0)) .no) .nil)) (.cons (.call "is_rising" (.cons (.loc 0) .nil) []) .nil))))) .nil)
def n_are_cells : Nat := 3
def b_are_pots : Ss := (.cons (.ret (.bool .And (.cons (.call "are_letters" (.cons (.loc 0) (.cons (.glob "MOST_POTS") .nil)) []) (.cons (.call "is_rising" (.cons (.loc 0) .nil) []) .nil)))) .nil)
def n_are_pots : Nat := 1
def c_is_band_0 : Ss := (.cons (.ret (.bool .And (.cons (.call "are_pots" (.cons (.loc 4) .nil) []) (.cons (.call "is_within" (.cons (.loc 5) (.cons (.const (.int 1)) (.cons (.glob "MOST_COST") .nil))) []) .nil)))) .nil)
def c_is_band_1 : Ss := (.cons (.ife (.bool .Or (.cons (.not (.call "is_name" (.cons (.loc 2) .nil) [])) (.cons (.not (.call "are_cells" (.cons (.loc 3) (.cons (.loc 1) .nil)) [])) (.cons (.cmp .Eq (.loc 3) (.tup .nil)) .nil)))) (.cons (.ret (.const (.bl false))) .nil) .nil) c_is_band_0)
def c_is_band_2 : Ss := (.cons (.asg (.tup (.cons (.name 2) (.cons (.name 3) (.cons (.name 4) (.cons (.name 5) .nil))))) (.loc 0)) c_is_band_1)
def b_is_band : Ss := (.cons (.ife (.bool .Or (.cons (.not (.isi (.loc 0) (.b "tuple"))) (.cons (.cmp .NotEq (.bi true .len (.cons (.loc 0) .nil)) (.const (.int 4))) .nil))) (.cons (.ret (.const (.bl false))) .nil) .nil) c_is_band_2)
def n_is_band : Nat := 6
def b_is_colour : Ss := (.cons (.ret (.call "are_letters" (.cons (.loc 0) (.cons (.const (.int 1)) .nil)) [])) .nil)
def n_is_colour : Nat := 1
def b_are_colours : Ss := (.cons (.ret (.bool .And (.cons (.isi (.loc 0) (.b "str")) (.cons (.bi true .all (.cons (.lc true (.call "is_colour" (.cons (.loc 1) .nil) []) (.name 1) (.seq (.loc 0)) .no) .nil)) .nil)))) .nil)
def n_are_colours : Nat := 2
def b_how_many : Ss := (.cons (.ret (.bin .Mult (.attr (.loc 0) "high") (.attr (.loc 0) "wide"))) .nil)
def n_how_many : Nat := 1
def c_is_picture_0 : Ss := (.cons (.ret (.bool .And (.cons (.call "are_colours" (.cons (.loc 1) .nil) []) (.cons (.cmp .Eq (.bi true .len (.cons (.loc 1) .nil)) (.call "how_many" (.cons (.loc 0) .nil) [])) .nil)))) .nil)
def b_is_picture : Ss := (.cons (.expr (.call "check_board" (.cons (.loc 0) .nil) [])) c_is_picture_0)
def n_is_picture : Nat := 2
def c_check_bands_0 : Ss := (.cons (.asg (.sub (.loc 2) (.sub (.loc 4) (.const (.int 0)))) (.const (.bl true))) .nil)
def c_check_bands_1 : Ss := (.cons (.for (.tup (.cons (.name 3) (.cons (.name 4) .nil))) (.enum (.loc 0)) (.cons (.ife (.bool .Or (.cons (.not (.call "is_band" (.cons (.loc 4) (.cons (.loc 1) .nil)) [])) (.cons (.cmp .In (.sub (.loc 4) (.const (.int 0))) (.loc 2)) .nil))) (.cons (.raise "NoBands" (.cons (.loc 3) .nil)) .nil) .nil) c_check_bands_0)) .nil)
def c_check_bands_2 : Ss := (.cons (.asg (.name 2) (.dct false .nil)) c_check_bands_1)
def b_check_bands : Ss := (.cons (.ife (.bool .Or (.cons (.not (.isi (.loc 0) (.b "tuple"))) (.cons (.cmp .Gt (.bi true .len (.cons (.loc 0) .nil)) (.glob "MOST_BANDS")) .nil))) (.cons (.raise "NoBands" (.cons (.const .non) .nil)) .nil) .nil) c_check_bands_2)
def n_check_bands : Nat := 5
def c_Board_init_0 : Ss := (.cons (.asg (.attr (.loc 0) "bands") (.loc 3)) .nil)
def c_Board_init_1 : Ss := (.cons (.asg (.attr (.loc 0) "wide") (.loc 2)) c_Board_init_0)
def c_Board_init_2 : Ss := (.cons (.asg (.attr (.loc 0) "high") (.loc 1)) c_Board_init_1)
def c_Board_init_3 : Ss := (.cons (.expr (.call "check_bands" (.cons (.loc 3) (.cons (.bin .Mult (.loc 1) (.loc 2)) .nil)) [])) c_Board_init_2)
def c_Board_init_4 : Ss := (.cons (.ife (.not (.call "is_within" (.cons (.loc 2) (.cons (.const (.int 1)) (.cons (.glob "MOST_SIDE") .nil))) [])) (.cons (.raise "NoSize" (.cons (.const (.str [119, 105, 100, 101])) .nil)) .nil) .nil) c_Board_init_3)
def b_Board_init : Ss := (.cons (.ife (.not (.call "is_within" (.cons (.loc 1) (.cons (.const (.int 1)) (.cons (.glob "MOST_SIDE") .nil))) [])) (.cons (.raise "NoSize" (.cons (.const (.str [104, 105, 103, 104])) .nil)) .nil) .nil) c_Board_init_4)
def n_Board_init : Nat := 4
def b_check_board : Ss := (.cons (.ife (.not (.isi (.loc 0) (.o "Board"))) (.cons (.raise "NoBoard" (.cons (.loc 0) .nil)) .nil) .nil) .nil)
def n_check_board : Nat := 1
end G
namespace G
open PySem L2
local macro_rules | `(tactic| simp_all_arith! [$xs,*]) => `(tactic| ((try dsimp only [x_loc, x_const, x_glob, x_bin, x_cmp, x_cmp2, x_bool, x_not, x_ite, x_bi, x_meth, x_attr, x_sub, x_sl, x_tup, x_lst, x_lc, x_sset, x_repl, x_dct, x_rngT, sp_tup, rv_tup, rv_lst, e_nil, e_cons, x_cat, x_xattr, x_isx, t_expr, t_ret, t_retN, t_pass, t_brk, t_cont, t_asg, t_par, t_ife, t_for, t_bad, t_tri, x_oeq, x_rpr, f_nil, f_cons, lh_tupS, lh_name, x_rngL, t_par3, rS_nil, rS_cons, rE_nil, rE_cons, mkV, wFn, $xs,*]); (try simp only [wFn, wSs, t_expr, t_ret, t_retN, t_pass, t_brk, t_cont, t_asg, t_par, t_ife, t_for, x_cat, x_xattr, x_rngL, x_oeq, x_rpr, f_nil, f_cons, lh_tupS, sp_tup, c_leS, t_par3, o_shlI, o_shrI, o_andI, b_boolI, b_boolB, at_0, at_1, at_2, at_3, x_loc, x_const, x_glob, x_bin, x_neg, x_cmp, x_cmp2, x_bool, x_not, x_ite, x_bi, x_meth, x_attr, x_sub, x_sl, x_tup, x_lst, x_lc, x_sset, x_repl, x_dct, x_dc, x_rngT, rv_tup, rv_lst, x_isiS, x_isiI, x_isiB, x_isiT, x_isiL, x_isiD, mkV, wB, wEs, wO, wTo, wI, wPs, wL, wLs, wG, wGs, lhsLen, esLen, pick, tgSlots, tgsSlots, wipeD, List.map_cons, List.map_nil, List.append_nil, List.nil_append, List.cons_append, List.length_cons, List.length_nil, Nat.reduceAdd, Nat.reduceSub, List.replicate, List.set_cons_zero, List.set_cons_succ, List.set_nil, List.getElem?_cons_zero, List.getElem?_cons_succ, Option.some.injEq, exists_eq_left', exists_eq_left, exists_eq_right, true_and, and_true, if_true, if_false, Bool.false_eq_true, reduceIte, List.getD_cons_zero, List.getD_cons_succ, tru_bl, tru_int, tru_non, D.bl.injEq, D.int.injEq, o_addI, o_subI, o_mulI, o_divI, o_modI, o_powI, o_addS, o_addL, o_addT, c_ltI, c_leI, c_gtI, c_geI, c_ltS, c_eqI, c_neI, c_eqS, c_neS, b_lenS, b_lenT, b_lenL, b_lenK, b_absI, b_maxI, b_minI, b_intI, b_intB, b_tupS, b_tupL, b_lstS, b_dvm, i_str, i_lst, i_tup, i_lsk, l_str, l_tup, l_lst, l_lsk, n_frz, n_obj, r_one, r_two, ak_non, ak_bl, ak_int, ak_str, ak_tup, ak_lst, ak_dct, kS_non, kS_bl, kS_int, kS_str, kS_tup, kS_lst, kS_dct, kS_ins, kS_obj, kI_non, kI_bl, kI_int, kI_str, kI_tup, kI_lst, kI_dct, kI_ins, kI_obj, kB_non, kB_bl, kB_int, kB_str, kB_tup, kB_lst, kB_dct, kB_ins, kB_obj, kT_non, kT_bl, kT_int, kT_str, kT_tup, kT_lst, kT_dct, kT_ins, kT_obj, kL_non, kD_non, kL_bl, kD_bl, kL_int, kD_int, kL_str, kD_str, kL_tup, kD_tup, kL_lst, kD_lst, kL_dct, kD_dct, kL_ins, kD_ins, c_inS, c_niS, c_inT, c_niT, c_inL, c_niL, c_is, c_isn, c_isB, i_dct, nn_non, nn_int, nn_str, nn_tup, nn_lst, b_tupT, b_rpr, decide_true, decide_false, Bool.not_true, Bool.not_false, Bool.and_true, Bool.true_and, Bool.and_false, Bool.false_and, $xs,*])))
local macro_rules | `(tactic| simp_all_arith [$xs,*]) => `(tactic| ((try dsimp only [x_loc, x_const, x_glob, x_bin, x_cmp, x_cmp2, x_bool, x_not, x_ite, x_bi, x_meth, x_attr, x_sub, x_sl, x_tup, x_lst, x_lc, x_sset, x_repl, x_dct, x_rngT, sp_tup, rv_tup, rv_lst, e_nil, e_cons, x_cat, x_xattr, x_isx, t_expr, t_ret, t_retN, t_pass, t_brk, t_cont, t_asg, t_par, t_ife, t_for, t_bad, t_tri, x_oeq, x_rpr, f_nil, f_cons, lh_tupS, lh_name, x_rngL, t_par3, rS_nil, rS_cons, rE_nil, rE_cons, mkV, wFn, $xs,*]); (try simp only [lim_0, lim_n1, lim_n2, lim_n3, lim_n4, lim_n5, lim_n6, lim_n7, lim_n8, lim_n9, lim_n10, lim_n11, lim_n12, lim_n13, lim_n14, lim_n15, lim_n16, lim_n17, lim_n18, lim_n19, lim_n20, lim_n21, lim_n22, lim_n23, lim_n24, lim_n25, lim_n26, lim_n27, lim_n28, lim_n29, lim_n30, sb_tup, sb_lst, sb_lsk, lh_tup, lh_lst, lh_name, it_str, it_tup, it_lst, Nat.reduceLeDiff, wFn, wSs, t_expr, t_ret, t_retN, t_pass, t_brk, t_cont, t_asg, t_par, t_ife, t_for, x_cat, x_xattr, x_rngL, x_oeq, x_rpr, f_nil, f_cons, lh_tupS, sp_tup, c_leS, t_par3, o_shlI, o_shrI, o_andI, b_boolI, b_boolB, at_0, at_1, at_2, at_3, x_loc, x_const, x_glob, x_bin, x_neg, x_cmp, x_cmp2, x_bool, x_not, x_ite, x_bi, x_meth, x_attr, x_sub, x_sl, x_tup, x_lst, x_lc, x_sset, x_repl, x_dct, x_dc, x_rngT, rv_tup, rv_lst, x_isiS, x_isiI, x_isiB, x_isiT, x_isiL, x_isiD, mkV, wB, wEs, wO, wTo, wI, wPs, wLs, wG, wGs, lhsLen, esLen, pick, tgSlots, tgsSlots, wipeD, List.map_cons, List.map_nil, List.append_nil, List.nil_append, List.cons_append, List.length_cons, List.length_nil, Nat.reduceAdd, Nat.reduceSub, List.replicate, List.set_cons_zero, List.set_cons_succ, List.set_nil, List.getElem?_cons_zero, List.getElem?_cons_succ, Option.some.injEq, exists_eq_left', exists_eq_left, exists_eq_right, true_and, and_true, if_true, if_false, Bool.false_eq_true, reduceIte, List.getD_cons_zero, List.getD_cons_succ, tru_bl, tru_int, tru_non, D.bl.injEq, D.int.injEq, o_addI, o_subI, o_mulI, o_divI, o_modI, o_powI, o_addS, o_addL, o_addT, c_ltI, c_leI, c_gtI, c_geI, c_ltS, c_eqI, c_neI, c_eqS, c_neS, b_lenS, b_lenT, b_lenL, b_lenK, b_absI, b_maxI, b_minI, b_intI, b_intB, b_tupS, b_tupL, b_lstS, b_dvm, i_str, l_str, l_tup, l_lst, l_lsk, n_frz, n_obj, r_one, r_two, ak_non, ak_bl, ak_int, ak_str, ak_tup, ak_lst, ak_dct, kS_non, kS_bl, kS_int, kS_str, kS_tup, kS_lst, kS_dct, kS_ins, kS_obj, kI_non, kI_bl, kI_int, kI_str, kI_tup, kI_lst, kI_dct, kI_ins, kI_obj, kB_non, kB_bl, kB_int, kB_str, kB_tup, kB_lst, kB_dct, kB_ins, kB_obj, kT_non, kT_bl, kT_int, kT_str, kT_tup, kT_lst, kT_dct, kT_ins, kT_obj, kL_non, kD_non, kL_bl, kD_bl, kL_int, kD_int, kL_str, kD_str, kL_tup, kD_tup, kL_lst, kD_lst, kL_dct, kD_dct, kL_ins, kD_ins, c_inS, c_niS, c_inT, c_niT, c_inL, c_niL, c_is, c_isn, c_isB, i_dct, nn_non, nn_int, nn_str, nn_tup, nn_lst, b_tupT, b_rpr, decide_true, decide_false, Bool.not_true, Bool.not_false, Bool.and_true, Bool.true_and, Bool.and_false, Bool.false_and, $xs,*])))
/-! P1: words and cells. -/
def szOk : D → Prop
  | .str s => s.length ≤ lim
  | .tup xs => xs.length ≤ lim
  | _ => True
section
variable {T : Tab}
def φ_is_whole : FSp := fun ds S Q E => match ds with
  | [x] => Ak S x ∧ Q (.bl (isIntD x && !isBlD x)) S
  | _ => False
theorem e_is_whole {x : D} {S : Sto} {Q : QV} {E : QX} : φ_is_whole [x] S Q E = (Ak S x ∧ Q (.bl (isIntD x && !isBlD x)) S) := rfl -- phi
theorem ok_is_whole : Ok T n_is_whole b_is_whole φ_is_whole := by
  intro ds S Q E hφ
  match ds, hφ with
  | [x], ⟨hk, q⟩ =>
    simp_all_arith! [b_is_whole, n_is_whole]
    refine ⟨hk, ?_⟩
    cases hx : isIntD x with
    | false => exact ⟨S, Sub.refl S, by rw [hx] at q; exact q⟩
    | true => exact ⟨hk, S, Sub.refl S, by rw [hx] at q; exact q⟩
def withinB (x : D) (a b : Int) : Bool := match x with
  | .int i => decide (a ≤ i) && decide (i ≤ b)
  | _ => false
def φ_is_within : FSp := fun ds S Q E => match ds with
  | [x, .int a, .int b] => Ak S x ∧ Q (.bl (withinB x a b)) S
  | _ => False
theorem e_is_within {x : D} {a : Int} {b : Int} {S : Sto} {Q : QV} {E : QX} : φ_is_within [x, .int a, .int b] S Q E = (Ak S x ∧ Q (.bl (withinB x a b)) S) := rfl -- phi
theorem ok_is_within (f0 : T.Fn "is_whole" φ_is_whole) : Ok T n_is_within b_is_within φ_is_within := by
  intro ds S Q E hφ
  match ds, hφ with
  | [x, .int a, .int b], ⟨hk, q⟩ =>
    simp_all_arith! [b_is_within, n_is_within, x_call f0, e_is_whole]
    refine ⟨hk, ?_⟩
    cases x with
    | int i =>
      simp only [isIntD, isBlD, Bool.not_false, Bool.and_self, c_leI, D.bl.injEq, exists_eq_left']
      cases h : decide (a ≤ i) with
      | false => exact ⟨S, Sub.refl S, by simp only [withinB, h, Bool.false_and] at q; exact q⟩
      | true => exact ⟨S, Sub.refl S, by simp only [withinB, h, Bool.true_and] at q; exact q⟩
    | bl i => exact ⟨S, Sub.refl S, q⟩
    | _ => exact ⟨S, Sub.refl S, q⟩
/-! ### letters -/
def lettersB (x : D) (m : Int) : Bool := match x with
  | .str s => decide (1 ≤ (s.length : Int)) && decide ((s.length : Int) ≤ m) && s.all fun c => decide (c ∈ abc)
  | _ => false
def φ_are_letters : FSp := fun ds S Q E => match ds with
  | [x, .int m] => Ak S x ∧ szOk x ∧ Q (.bl (lettersB x m)) S
  | _ => False
theorem e_are_letters {x : D} {m : Int} {S : Sto} {Q : QV} {E : QX} : φ_are_letters [x, .int m] S Q E = (Ak S x ∧ szOk x ∧ Q (.bl (lettersB x m)) S) := rfl -- phi
theorem ok_are_letters (c0 : T.con "LETTERS" = some (.str abc)) : Ok T n_are_letters b_are_letters φ_are_letters := by
  intro ds S Q E hφ
  match ds, hφ with
  | [x, .int m], ⟨hk, hs, q⟩ =>
    simp_all_arith! [b_are_letters, n_are_letters, c0]
    refine ⟨hk, ?_⟩
    cases x with
    | str s =>
      have hl : s.length ≤ lim := hs
      simp only [isStrD, b_lenS, c_leI, D.bl.injEq, exists_eq_left', tru_bl, Option.some.injEq]
      refine ⟨hl, ?_⟩
      cases e1 : decide (1 ≤ (s.length : Int)) with
      | false => exact ⟨S, Sub.refl S, by simp only [lettersB, e1, Bool.false_and] at q; exact q⟩
      | true =>
        simp only [if_true]
        cases e2 : decide ((s.length : Int) ≤ m) with
        | false => exact ⟨S, Sub.refl S, by simp only [lettersB, e1, e2, Bool.and_false, Bool.false_and] at q; exact q⟩
        | true =>
          refine ⟨_, rfl, ?_⟩
          refine wLc_pure (fun d => match d with | .str [c] => .bl (decide (c ∈ abc)) | _ => .non) (fun _ => true) trivial (fun d hd k1 k0 hk1 hk0 => ?_) ?_ ?_
          · obtain ⟨c, hc, rfl⟩ := List.mem_map.mp hd
            simp_all_arith! [wFn]
            exact hk1 rfl
          · rw [List.length_map]; simpa using hl
          · rw [filter_all, List.nil_append, List.map_map]
            refine ⟨s.map fun c => decide (c ∈ abc), ?_, S, Sub.refl S, ?_⟩
            · rw [List.map_map]; rfl
            · simp only [lettersB, e1, e2, Bool.true_and] at q
              rw [List.all_map]
              exact q
    | _ => exact ⟨S, Sub.refl S, q⟩
def φ_lett (m : Int) : FSp := fun ds S Q E => match ds with
  | [x] => Ak S x ∧ szOk x ∧ Q (.bl (lettersB x m)) S
  | _ => False
theorem ok_is_name (f0 : T.Fn "are_letters" φ_are_letters) (c0 : T.con "MOST_NAME" = some (.int 6)) : Ok T n_is_name b_is_name (φ_lett 6) := by
  intro ds S Q E hφ
  match ds, hφ with
  | [x], ⟨hk, hs, q⟩ =>
    simp_all_arith! [b_is_name, n_is_name, x_call f0, e_are_letters, c0]
    exact ⟨hk, hs, S, Sub.refl S, q⟩
theorem ok_is_colour (f0 : T.Fn "are_letters" φ_are_letters) : Ok T n_is_colour b_is_colour (φ_lett 1) := by
  intro ds S Q E hφ
  match ds, hφ with
  | [x], ⟨hk, hs, q⟩ =>
    simp_all_arith! [b_is_colour, n_is_colour, x_call f0, e_are_letters]
    exact ⟨hk, hs, S, Sub.refl S, q⟩
/-! ### rising -/
def risS (s : List Nat) : Bool := (s.zip (s.drop 1)).all fun p => decide (p.1 < p.2)
def risI (s : List Int) : Bool := (s.zip (s.drop 1)).all fun p => decide (p.1 < p.2)
theorem one_lt {a b : Nat} : decide ([a] < [b]) = decide (a < b) := by
  apply decide_eq_decide.mpr
  constructor
  · intro h
    rcases List.cons_lt_cons_iff.mp h with h | ⟨_, h⟩
    · exact h
    · exact absurd h (List.lt_irrefl _)
  · intro h; exact List.cons_lt_cons_iff.mpr (.inl h)
theorem cut_one {α : Type} (s : List α) : cut s (some 1) none = s.drop 1 := by
  unfold cut
  have e1 : HT.sIx s.length 0 (some 1) = min 1 s.length := by unfold HT.sIx; simp
  have e2 : HT.sIx s.length s.length none = s.length := rfl
  rw [e1, e2]
  cases s with
  | nil => rfl
  | cons x r =>
    have : min 1 (x :: r).length = 1 := by simp
    rw [this]
    simp
def φ_is_rising : FSp := fun ds S Q E => match ds with
  | [.str s] => s.length ≤ lim ∧ Q (.bl (risS s)) S
  | [.tup xs] => ∃ is : List Int, xs = is.map .int ∧ xs.length ≤ lim ∧ Q (.bl (risI is)) S
  | _ => False
theorem ok_is_rising : Ok T n_is_rising b_is_rising φ_is_rising := by
  intro ds S Q E hφ
  match ds, hφ with
  | [.str s], ⟨hl, q⟩ =>
    simp_all_arith! [b_is_rising, n_is_rising]
    refine ⟨hl, _, _, rfl, rfl, ?_⟩
    rw [cut_one]
    refine wLc_pure (fun d => match d with | .tup [.str [a], .str [b]] => .bl (decide (a < b)) | _ => .non) (fun _ => true) ⟨trivial, trivial⟩ (fun d hd k1 k0 hk1 hk0 => ?_) ?_ ?_
    · obtain ⟨p, hp, rfl⟩ := List.mem_map.mp hd
      rw [List.zip_map] at hp
      obtain ⟨q, hq, rfl⟩ := List.mem_map.mp hp
      obtain ⟨a, b⟩ := q
      have h1 := hk1 rfl
      refine ⟨rfl, .str [a], rfl, .str [b], rfl, ?_⟩
      show k1 (.bl (decide ([a] < [b]))) S
      rw [one_lt]
      exact h1
    · simp only [List.length_map, List.length_zip, List.length_drop, List.length_nil]
      omega
    · rw [filter_all, List.nil_append, List.map_map]
      refine ⟨(s.zip (s.drop 1)).map fun p => decide (p.1 < p.2), ?_, S, Sub.refl S, ?_⟩
      · rw [List.zip_map, List.map_map, List.map_map]; rfl
      · rw [List.all_map]
        exact q
  | [.tup xs], ⟨is, e, hl, q⟩ =>
    subst e
    simp_all_arith! [b_is_rising, n_is_rising]
    refine ⟨_, _, rfl, rfl, ?_⟩
    rw [cut_one]
    refine wLc_pure (fun d => match d with | .tup [.int a, .int b] => .bl (decide (a < b)) | _ => .non) (fun _ => true) ⟨trivial, trivial⟩ (fun d hd k1 k0 hk1 hk0 => ?_) ?_ ?_
    · obtain ⟨p, hp, rfl⟩ := List.mem_map.mp hd
      rw [← List.map_drop, List.zip_map] at hp
      obtain ⟨q, hq, rfl⟩ := List.mem_map.mp hp
      obtain ⟨a, b⟩ := q
      exact ⟨rfl, .int a, rfl, .int b, rfl, hk1 rfl⟩
    · simp only [List.length_map, List.length_zip, List.length_drop, List.length_nil] at hl ⊢
      omega
    · rw [filter_all, List.nil_append, List.map_map, ← List.map_drop]
      refine ⟨(is.zip (is.drop 1)).map fun p => decide (p.1 < p.2), ?_, S, Sub.refl S, ?_⟩
      · rw [List.zip_map, List.map_map, List.map_map]; rfl
      · rw [List.all_map]
        exact q
def potsB (x : D) : Bool := lettersB x 6 && (match x with | .str s => risS s | _ => false)
def φ_are_pots : FSp := fun ds S Q E => match ds with
  | [x] => Ak S x ∧ szOk x ∧ Q (.bl (potsB x)) S
  | _ => False
theorem e_are_pots {x : D} {S : Sto} {Q : QV} {E : QX} : φ_are_pots [x] S Q E = (Ak S x ∧ szOk x ∧ Q (.bl (potsB x)) S) := rfl -- phi
theorem ok_are_pots (f0 : T.Fn "are_letters" φ_are_letters) (f1 : T.Fn "is_rising" φ_is_rising) (c0 : T.con "MOST_POTS" = some (.int 6)) : Ok T n_are_pots b_are_pots φ_are_pots := by
  intro ds S Q E hφ
  match ds, hφ with
  | [x], ⟨hk, hs, q⟩ =>
    simp_all_arith! [b_are_pots, n_are_pots, x_call f0, x_call f1, e_are_letters, c0]
    refine ⟨hk, hs, ?_⟩
    cases h : lettersB x 6 with
    | false =>
      unfold potsB at q
      rw [h] at q
      exact ⟨S, Sub.refl S, q⟩
    | true =>
      cases x with
      | str s =>
        refine ⟨hs, S, Sub.refl S, ?_⟩
        unfold potsB at q
        rw [h] at q
        exact q
      | _ => cases h
/-! ### cells -/
def cellsB (x : D) (n : Int) : Bool := match x with
  | .tup xs => (xs.all fun d => withinB d 0 (n - 1)) && risI (xs.map fun d => match d with | .int i => i | _ => 0)
  | _ => false
def akAll (S : Sto) : D → Prop
  | .tup xs => ∀ d ∈ xs, Ak S d
  | _ => True
def φ_are_cells : FSp := fun ds S Q E => match ds with
  | [x, .int n] => Ak S x ∧ szOk x ∧ akAll S x ∧ Q (.bl (cellsB x n)) S
  | _ => False
theorem e_are_cells {x : D} {n : Int} {S : Sto} {Q : QV} {E : QX} : φ_are_cells [x, .int n] S Q E = (Ak S x ∧ szOk x ∧ akAll S x ∧ Q (.bl (cellsB x n)) S) := rfl -- phi
theorem within_int {d : D} {a b : Int} (h : withinB d a b = true) : ∃ i, d = .int i ∧ a ≤ i ∧ i ≤ b := by
  cases d <;> simp only [withinB, Bool.false_eq_true, Bool.and_eq_true, decide_eq_true_eq] at h
  exact ⟨_, rfl, h⟩
theorem all_int {xs : List D} {a b : Int} (h : (xs.all fun d => withinB d a b) = true) : xs = (xs.map fun d => match d with | .int i => i | _ => 0).map .int := by
  induction xs with
  | nil => rfl
  | cons x r ih =>
    rw [List.all_cons, Bool.and_eq_true] at h
    obtain ⟨i, rfl, _⟩ := within_int h.1
    rw [List.map_cons, List.map_cons, ← ih h.2]
theorem ok_are_cells (f0 : T.Fn "is_within" φ_is_within) (f1 : T.Fn "is_rising" φ_is_rising) : Ok T n_are_cells b_are_cells φ_are_cells := by
  intro ds S Q E hφ
  match ds, hφ with
  | [x, .int n], ⟨hk, hs, ha, q⟩ =>
    simp_all_arith! [b_are_cells, n_are_cells, x_call f0, x_call f1, e_is_within]
    refine ⟨hk, ?_⟩
    cases x with
    | tup xs =>
      refine ⟨_, rfl, ?_⟩
      refine wLc_pure (fun d => .bl (withinB d 0 (n - 1))) (fun _ => true) trivial (fun d hd k1 k0 hk1 hk0 => ?_) (by simpa using (show xs.length ≤ lim from hs)) ?_
      · simp_all_arith! [wFn]
        exact ⟨ha d hd, hk1 rfl⟩
      rw [filter_all, List.nil_append]
      refine ⟨xs.map fun d => withinB d 0 (n - 1), by rw [List.map_map]; rfl, ?_⟩
      rw [all_id]
      cases h : xs.all (fun d => withinB d 0 (n - 1)) with
      | false =>
        simp only [cellsB, h, Bool.false_and] at q
        exact ⟨_, rfl, S, Sub.refl S, q⟩
      | true =>
        refine ⟨_, rfl, _, all_int h, hs, S, Sub.refl S, ?_⟩
        simp only [cellsB, h, Bool.true_and] at q
        exact q
    | _ => exact ⟨S, Sub.refl S, q⟩
end
/-! P2: boards, pictures. -/
structure Band where
  name : List Nat
  cells : List Nat
  pots : List Nat
  cost : Nat
def cellsD (cs : List Nat) : List D := cs.map fun (c : Nat) => D.int c
def Band.d (b : Band) : D := .tup [.str b.name, .tup (cellsD b.cells), .str b.pots, .int b.cost]
def letters (s : List Nat) : Prop := ∀ c ∈ s, c ∈ abc
structure Band.Ok (n : Nat) (b : Band) : Prop where
  n0 : 1 ≤ b.name.length
  n6 : b.name.length ≤ 6
  nl : letters b.name
  c0 : b.cells ≠ []
  cn : ∀ c ∈ b.cells, c < n
  cr : b.cells.Pairwise (· < ·)
  p0 : 1 ≤ b.pots.length
  p6 : b.pots.length ≤ 6
  pl : letters b.pots
  pr : b.pots.Pairwise (· < ·)
  k0 : 1 ≤ b.cost
  k9 : b.cost ≤ 9
structure BOk (h w : Nat) (bs : List Band) : Prop where
  h0 : 1 ≤ h
  h6 : h ≤ 6
  w0 : 1 ≤ w
  w6 : w ≤ 6
  b12 : bs.length ≤ 12
  ok : ∀ b ∈ bs, b.Ok (h * w)
  nd : (bs.map (·.name)).Nodup
def brd (h w : Nat) (bs : List Band) : D := .ins "Board" ["high", "wide", "bands"] [.int h, .int w, .tup (bs.map Band.d)]
section
variable {T : Tab}
/-! ### plain facts -/
theorem ris_of {s : List Nat} (h : s.Pairwise (· < ·)) : risS s = true := by
  unfold risS
  induction s with
  | nil => rfl
  | cons a r ih =>
    rw [List.pairwise_cons] at h
    cases r with
    | nil => rfl
    | cons b r =>
      have e := ih h.2
      simp only [List.drop_succ_cons, List.drop_zero, List.zip_cons_cons, List.all_cons, Bool.and_eq_true, decide_eq_true_eq] at e ⊢
      exact ⟨h.1 b (by simp), e⟩
theorem risI_of {s : List Nat} (h : s.Pairwise (· < ·)) : risI (s.map fun (c : Nat) => (c : Int)) = true := by
  unfold risI
  induction s with
  | nil => rfl
  | cons a r ih =>
    rw [List.pairwise_cons] at h
    cases r with
    | nil => rfl
    | cons b r =>
      have e := ih h.2
      simp only [List.map_cons, List.drop_succ_cons, List.drop_zero, List.zip_cons_cons, List.all_cons, Bool.and_eq_true, decide_eq_true_eq] at e ⊢
      have := h.1 b (by simp)
      exact ⟨by omega, e⟩
theorem lett_of {s : List Nat} {m : Int} (h : letters s) (h1 : 1 ≤ s.length) (hm : (s.length : Int) ≤ m) : lettersB (.str s) m = true := by
  unfold lettersB
  simp only [Bool.and_eq_true, decide_eq_true_eq, List.all_eq_true]
  exact ⟨⟨by omega, hm⟩, h⟩
theorem cells_of {cs : List Nat} {n : Nat} (h1 : ∀ c ∈ cs, c < n) (h2 : cs.Pairwise (· < ·)) : cellsB (.tup (cellsD cs)) n = true := by
  unfold cellsB cellsD
  simp only [Bool.and_eq_true, List.all_eq_true, List.map_map]
  refine ⟨fun d hd => ?_, ?_⟩
  · obtain ⟨c, hc, rfl⟩ := List.mem_map.mp hd
    have := h1 c hc
    simp only [withinB, Bool.and_eq_true, decide_eq_true_eq]
    omega
  · exact risI_of h2
/-! ### bands -/
def bandB (x : D) (n : Int) : Bool := match x with
  | .tup [a, b, c, d] => lettersB a 6 && (cellsB b n && !(beq b (.tup []))) && (potsB c && withinB d 1 9)
  | _ => false
/-- what is asked of a thing that may be a band -/
def bandAk (S : Sto) (x : D) : Prop := Ak S x ∧ szOk x ∧ match x with
  | .tup [a, b, c, d] => (Ak S a ∧ szOk a) ∧ (Ak S b ∧ szOk b ∧ akAll S b) ∧ (Ak S c ∧ szOk c) ∧ Ak S d
  | _ => True
def φ_is_band : FSp := fun ds S Q E => match ds with
  | [x, .int n] => bandAk S x ∧ Q (.bl (bandB x n)) S
  | _ => False
theorem e_is_band {x : D} {n : Int} {S : Sto} {Q : QV} {E : QX} : φ_is_band [x, .int n] S Q E = (bandAk S x ∧ Q (.bl (bandB x n)) S) := rfl -- phi
theorem plain_ints {xs : List D} {a b : Int} (h : (xs.all fun d => withinB d a b) = true) : plains xs = true ∧ depths xs = 0 := by
  induction xs with
  | nil => exact ⟨rfl, rfl⟩
  | cons x r ih =>
    rw [List.all_cons, Bool.and_eq_true] at h
    obtain ⟨i, rfl, _⟩ := within_int h.1
    obtain ⟨e1, e2⟩ := ih h.2
    unfold plains depths
    rw [e1, e2]
    exact ⟨rfl, rfl⟩
theorem cells_plain {b : D} {n : Int} (h : cellsB b n = true) : plain b = true ∧ depth b ≤ 64 := by
  cases b <;> simp only [cellsB, Bool.false_eq_true, Bool.and_eq_true] at h
  obtain ⟨e1, e2⟩ := plain_ints h.1
  unfold plain depth
  rw [e1, e2]
  exact ⟨rfl, by decide⟩
theorem bandB_cut {xs : List D} {n : Int} (h : xs.length ≠ 4) : bandB (.tup xs) n = false := by
  match xs, h with
  | [], _ => rfl
  | [_], _ => rfl
  | [_, _], _ => rfl
  | [_, _, _], _ => rfl
  | [_, _, _, _], h => exact absurd rfl h
  | _ :: _ :: _ :: _ :: _ :: _, _ => rfl
theorem ok_is_band (f0 : T.Fn "is_name" (φ_lett 6)) (f1 : T.Fn "are_cells" φ_are_cells) (f2 : T.Fn "are_pots" φ_are_pots) (f3 : T.Fn "is_within" φ_is_within) (c0 : T.con "MOST_COST" = some (.int 9)) : Ok T n_is_band b_is_band φ_is_band := by
  intro ds S Q E hφ
  match ds, hφ with
  | [x, .int n], ⟨⟨hk, hs, hr⟩, q⟩ =>
    simp_all_arith! [b_is_band, n_is_band]
    refine ⟨hk, ?_⟩
    cases x with
    | tup xs =>
      simp only [kT_tup, Bool.not_true, b_lenT, c_neI, Option.some.injEq, exists_eq_left', tru_bl]
      by_cases hl : xs.length = 4
      · match xs, hl, hr with
        | [a, b, c, d], _, ⟨⟨a1, a2⟩, ⟨b1, b2, b3⟩, ⟨d1, d2⟩, e1⟩ =>
          simp_all_arith! [c_is_band_2]
          refine ⟨_, rfl, rfl, ?_⟩
          simp_all_arith! [c_is_band_1, c_eq, x_call f0, x_call f1, x_call f2, x_call f3, c0, φ_lett, e_are_cells]
          refine ⟨a1, a2, ?_⟩
          cases g1 : lettersB a 6 with
          | false => exact ⟨S, Sub.refl S, by simp only [bandB, g1, Bool.false_and] at q; exact q⟩
          | true =>
            simp only [Bool.not_true]
            refine ⟨b1, b2, b3, ?_⟩
            cases g2 : cellsB b n with
            | false => exact ⟨S, Sub.refl S, by simp only [bandB, g1, g2, Bool.false_and, Bool.and_false] at q; exact q⟩
            | true =>
              simp only [Bool.not_true]
              refine ⟨by decide, ⟨(cells_plain g2).1, rfl, (cells_plain g2).2, by decide⟩, ?_⟩
              cases g3 : beq b (.tup []) with
              | true => exact ⟨S, Sub.refl S, by simp only [bandB, g1, g2, g3, Bool.not_true, Bool.and_false, Bool.false_and] at q; exact q⟩
              | false =>
                simp only [Bool.false_eq_true, if_false]
                simp_all_arith! [c_is_band_0, x_call f2, x_call f3, c0, e_are_pots, e_is_within]
                refine ⟨d1, d2, ?_⟩
                cases g4 : potsB c with
                | false => exact ⟨S, Sub.refl S, by simp only [bandB, g1, g2, g3, g4, Bool.not_false, Bool.and_true, Bool.true_and, Bool.false_and] at q; exact q⟩
                | true => exact ⟨e1, S, Sub.refl S, by simp only [bandB, g1, g2, g3, g4, Bool.not_false, Bool.and_true, Bool.true_and] at q; exact q⟩
      · rw [decide_eq_false (show ¬ ((xs.length : Int) = 4) by omega)]
        exact ⟨S, Sub.refl S, by rw [bandB_cut hl] at q; exact q⟩
    | _ => exact ⟨S, Sub.refl S, q⟩
theorem pots_of {s : List Nat} (h : letters s) (h1 : 1 ≤ s.length) (h6 : s.length ≤ 6) (hr : s.Pairwise (· < ·)) : potsB (.str s) = true := by
  unfold potsB
  rw [lett_of h h1 (by omega)]
  exact ris_of hr
theorem band_of {b : Band} {n : Nat} (h : b.Ok n) : bandB b.d n = true := by
  show (lettersB (.str b.name) 6 && (cellsB (.tup (cellsD b.cells)) n && !(beq (.tup (cellsD b.cells)) (.tup []))) && (potsB (.str b.pots) && withinB (.int b.cost) 1 9)) = true
  rw [lett_of h.nl h.n0 (by have := h.n6; omega), cells_of h.cn h.cr, pots_of h.pl h.p0 h.p6 h.pr]
  have e : beq (.tup (cellsD b.cells)) (.tup []) = false := by
    have := h.c0
    unfold cellsD
    cases hb : b.cells with
    | nil => exact absurd hb this
    | cons _ _ => rfl
  have e2 : withinB (.int b.cost) 1 9 = true := by
    have h1 := h.k0
    have h2 := h.k9
    simp only [withinB, Bool.and_eq_true, decide_eq_true_eq]
    omega
  rw [e, e2]
  rfl
theorem bounded_rise {n : Nat} : ∀ {cs : List Nat} {lo : Nat}, (∀ c ∈ cs, lo ≤ c ∧ c < n) → cs.Pairwise (· < ·) → cs.length ≤ n - lo
  | [], lo, _, _ => Nat.zero_le _
  | a :: r, lo, h, hp => by
    rw [List.pairwise_cons] at hp
    have h1 := h a (by simp)
    have := bounded_rise (n := n) (cs := r) (lo := a + 1) (fun c hc => ⟨hp.1 c hc, (h c (by simp [hc])).2⟩) hp.2
    rw [List.length_cons]
    omega
theorem Band.Ok.len {b : Band} {n : Nat} (h : b.Ok n) : b.cells.length ≤ n := by
  have := bounded_rise (n := n) (lo := 0) (fun c hc => ⟨Nat.zero_le _, h.cn c hc⟩) h.cr
  omega
theorem bandAk_of {b : Band} {n : Nat} {S : Sto} (h : b.Ok n) (hn : n ≤ 1000) : bandAk S b.d := by
  refine ⟨ak_tup.mpr trivial, ?_, ⟨ak_str.mpr trivial, ?_⟩, ⟨ak_tup.mpr trivial, ?_, ?_⟩, ⟨ak_str.mpr trivial, ?_⟩, ak_int.mpr trivial⟩
  · show 4 ≤ lim; decide
  · show b.name.length ≤ lim; have := h.n6; unfold lim; omega
  · show (cellsD b.cells).length ≤ lim; have := h.len; unfold lim cellsD; rw [List.length_map]; omega
  · intro d hd
    obtain ⟨c, hc, rfl⟩ := List.mem_map.mp hd
    exact ak_int.mpr trivial
  · show b.pots.length ≤ lim; have := h.p6; unfold lim; omega
/-! ### boards -/
theorem BOk.n36 {h w : Nat} {bs : List Band} (k : BOk h w bs) : h * w ≤ 36 := Nat.mul_le_mul k.h6 k.w6
/-- the name in a thing's first place -/
def nmOf : D → List Nat
  | .tup (.str s :: _) => s
  | _ => []
/-- the number of the first that is no band, or has the name of one ahead -/
def chkB (n : Int) : List D → List (List Nat) → Nat → Option Nat
  | [], _, _ => none
  | d :: r, kn, j => if bandB d n = true then (if nmOf d ∈ kn then some j else chkB n r (kn ++ [nmOf d]) (j + 1)) else some j
def chkBands (x : D) (n : Int) : Option D := match x with
  | .tup xs => if xs.length ≤ 12 then (chkB n xs [] 0).map fun (j : Nat) => D.int j else some .non
  | _ => some .non
def bandsAk (S : Sto) : D → Prop
  | .tup xs => xs.length ≤ 12 → ∀ d ∈ xs, bandAk S d
  | _ => True
def φ_check_bands : FSp := fun ds S Q E => match ds with
  | [x, .int n] => Ak S x ∧ szOk x ∧ bandsAk S x ∧ (match chkBands x n with | none => Q .non S | some e => E ⟨"NoBands", ["number"], [e]⟩ S)
  | _ => False
theorem e_check_bands {x : D} {n : Int} {S : Sto} {Q : QV} {E : QX} : φ_check_bands [x, .int n] S Q E = (Ak S x ∧ szOk x ∧ bandsAk S x ∧ (match chkBands x n with | none => Q .non S | some e => E ⟨"NoBands", ["number"], [e]⟩ S)) := rfl -- phi
theorem getK_names {ns : List (List Nat)} {x : List Nat} (h : x ∉ ns) : getK (ns.map fun s => (D.str s, D.bl true)) (.str x) = none := by
  unfold getK
  rw [List.find?_eq_none.mpr]
  · rfl
  · intro p hp
    obtain ⟨s, hs, rfl⟩ := List.mem_map.mp hp
    unfold keyB
    simp only [toKey, decide_eq_true_eq, Option.some.injEq, Sum.inr.injEq]
    intro e
    have := congrArg (fun z : Str => z.cps.toList) e
    simp only [mkS, List.toList_toArray] at this
    exact h (this ▸ hs)
theorem getK_in {ns : List (List Nat)} {x : List Nat} (h : x ∈ ns) : (getK (ns.map fun s => (D.str s, D.bl true)) (.str x)).isSome = true := by
  unfold getK
  rw [Option.isSome_map, List.find?_isSome]
  exact ⟨(.str x, .bl true), List.mem_map.mpr ⟨x, h, rfl⟩, by unfold keyB; simp⟩
theorem putK_names {ns : List (List Nat)} {x : List Nat} (h : x ∉ ns) : putKD (ns.map fun s => (D.str s, D.bl true)) (.str x) (.bl true) = (ns ++ [x]).map fun s => (D.str s, D.bl true) := by
  have e : (ns.map fun s => (D.str s, D.bl true)).any (keyB (.str x)) = false := by
    have := getK_names h
    unfold getK at this
    rw [Option.map_eq_none_iff, List.find?_eq_none] at this
    rw [Bool.eq_false_iff]
    intro hc
    obtain ⟨p, hp, hk⟩ := List.any_eq_true.mp hc
    exact this p hp hk
  unfold putKD
  rw [e, if_neg (by simp), List.map_append]
  rfl
/-- a thing whose kind is known keeps it where something new is laid -/
theorem Ak.set {S : Sto} {x : D} {a : Addr} {o : O} (h : Ak S x) (ha : S a = none) : Ak (S.set a o) x := by
  obtain ⟨k, h1, h2⟩ := h
  refine ⟨k, ?_, h2⟩
  cases x <;> first | exact h1 | skip
  rename_i b
  have hb : b ≠ a := fun e => by
    subst e
    simp only [kindOf, ha, reduceCtorEq] at h1
  simp only [kindOf, Sto.set_ne hb] at h1 ⊢
  exact h1
theorem bandAk.set {S : Sto} {x : D} {a : Addr} {o : O} (h : bandAk S x) (ha : S a = none) : bandAk (S.set a o) x := by
  obtain ⟨h1, h2, h3⟩ := h
  refine ⟨h1.set ha, h2, ?_⟩
  split
  · obtain ⟨⟨a1, a2⟩, ⟨b1, b2, b3⟩, ⟨c1, c2⟩, d1⟩ := h3
    refine ⟨⟨a1.set ha, a2⟩, ⟨b1.set ha, b2, ?_⟩, ⟨c1.set ha, c2⟩, d1.set ha⟩
    rename_i b _ _
    cases b <;> first | exact fun d hd => (b3 d hd).set ha | exact b3
  · trivial
theorem bandB_name {x : D} {n : Int} (h : bandB x n = true) : ∃ r, x = .tup (.str (nmOf x) :: r) := by
  unfold bandB at h
  split at h
  · rename_i a b c d
    cases a <;> simp only [lettersB, Bool.false_and, Bool.false_eq_true] at h
    exact ⟨_, rfl⟩
  · cases h
theorem sub_first {s : List Nat} {r : List D} {S : Sto} {Q : QV} : subS (.tup (.str s :: r)) (.int 0) S Q = Q (.str s) S := by
  show (∃ xs d, some _ = some xs ∧ atI xs 0 = some d ∧ Q d S) = _
  simp only [Option.some.injEq, exists_and_left, exists_eq_left']
  have : atI (D.str s :: r) 0 = some (.str s) := by unfold atI ixN; simp
  rw [this]
  simp
theorem ok_check_bands (f0 : T.Fn "is_band" φ_is_band) (c0 : T.con "MOST_BANDS" = some (.int 12)) (x0 : T.Xc "NoBands" (some "number") false) : Ok T n_check_bands b_check_bands φ_check_bands := by
  intro ds S Q E hφ
  match ds, hφ with
  | [x, .int n], ⟨hk, hs, hb, q⟩ =>
    have rN : ∀ {S' : Sto} {e : D}, Sub S S' → (E ⟨"NoBands", ["number"], [e]⟩ S) → strOk false e ∧ ∃ S2, Sub S2 S' ∧ E ⟨"NoBands", ["number"], [e]⟩ S2 := fun hsb he => ⟨(fun z => by cases z), S, hsb, he⟩
    simp_all_arith! [b_check_bands, n_check_bands, c0, t_raise x0]
    refine ⟨hk, ?_⟩
    cases x with
    | tup xs =>
      simp only [kT_tup, Bool.not_true, b_lenT, c_gtI, Option.some.injEq, exists_eq_left', tru_bl]
      by_cases h12 : xs.length ≤ 12
      · rw [decide_eq_false (show ¬ ((12 : Int) < (xs.length : Int)) by omega)]
        simp only [chkBands, if_pos h12] at q
        simp_all_arith! [c_check_bands_2]
        intro a ha
        simp only [newDc, Bool.false_eq_true, if_false]
        refine ⟨Sto.set_same, by decide, rfl, List.nodup_nil, ?_⟩
        simp_all_arith! [c_check_bands_1]
        refine ⟨_, rfl, ?_⟩
        rw [Sto.set_set]
        refine wFor_inv (fun i ρ S' => ∃ x3 x4, ρ = [some (.tup xs), some (.int n), some (.obj a), x3, x4] ∧ S' = S.set a (.dct (((xs.take i).map nmOf).map fun s => (D.str s, D.bl true))) ∧ chkB n (xs.drop i) ((xs.take i).map nmOf) i = chkB n xs [] 0) 0 ⟨_, _, rfl, rfl, rfl⟩ ?_ ?_
        · rintro j d ρ S' hj ⟨x3, x4, rfl, rfl, hc⟩
          rw [List.getElem?_map, List.getElem?_zipIdx] at hj
          rw [Nat.zero_add] at hc
          cases hb' : xs[j]? with
          | none => rw [hb'] at hj; cases hj
          | some d0 =>
            rw [hb'] at hj
            cases hj
            refine ⟨trivial, fun nx hnx => ?_⟩
            have hjl : j < xs.length := (List.getElem?_eq_some_iff.mp hb').1
            have hdj : xs[j] = d0 := (List.getElem?_eq_some_iff.mp hb').2
            rw [List.drop_eq_getElem_cons hjl, hdj] at hc
            rw [chkB] at hc
            simp_all_arith! [x_call f0, e_is_band, Nat.zero_add, t_raise x0]
            refine ⟨(hb h12 d0 (List.mem_of_getElem? hb')).set ha, ?_⟩
            cases hB : bandB d0 n with
            | false =>
              rw [hB, if_neg (by simp)] at hc
              rw [← hc] at q
              simp only [Bool.not_false, if_true]
              exact rN (Sub.set_new ha) q
            | true =>
              rw [hB, if_pos rfl] at hc
              obtain ⟨r, er⟩ := bandB_name hB
              simp only [Bool.not_true]
              rw [er, sub_first, c_inO Sto.set_same]
              refine ⟨rfl, ?_⟩
              by_cases hin : nmOf d0 ∈ (xs.take j).map nmOf
              · rw [if_pos hin] at hc
                rw [← hc] at q
                rw [getK_in hin]
                simp_all_arith! [t_raise x0]
                exact rN (Sub.set_new ha) q
              · rw [if_neg hin] at hc
                rw [getK_names hin, Option.isSome_none]
                simp_all_arith! [c_check_bands_0]
                refine ⟨_, _, rfl, at_0, ?_⟩
                rw [put_dct' Sto.set_same, putK_names hin, Sto.set_set]
                have et : (xs.take (j + 1)).map nmOf = (xs.take j).map nmOf ++ [nmOf d0] := by rw [List.take_add_one, hb', Option.toList_some, List.map_append]; rfl
                refine ⟨rfl, ?_, hnx _ _ ⟨_, _, rfl, ?_, ?_⟩⟩
                · rw [List.length_map, List.length_map, List.length_take]; unfold lim; omega
                · rw [Nat.zero_add, et]
                · rw [Nat.zero_add, et]; exact hc
        · rintro ρ S' ⟨x3, x4, rfl, rfl, hc⟩
          rw [Nat.zero_add, List.length_map, List.length_zipIdx, List.drop_length] at hc
          rw [← hc] at q
          exact ⟨trivial, S, Sub.set_new ha, q⟩
      · rw [decide_eq_true (show ((12 : Int) < (xs.length : Int)) by omega)]
        simp only [chkBands, if_neg h12] at q
        simp_all_arith! [t_raise x0]
        exact rN (Sub.refl _) q
    | _ =>
      try simp_all_arith! [t_raise x0]
      exact rN (Sub.refl _) q
theorem chk_go {n : Nat} : ∀ (bs : List Band) (kn : List (List Nat)) (j : Nat), (∀ b ∈ bs, b.Ok n) → (kn ++ bs.map (·.name)).Nodup → chkB n (bs.map Band.d) kn j = none
  | [], _, _, _, _ => rfl
  | b :: r, kn, j, hb, nd => by
    rw [List.map_cons]
    unfold chkB
    rw [if_pos (band_of (hb b (by simp)))]
    have en : nmOf b.d = b.name := rfl
    rw [en]
    rw [List.map_cons] at nd
    have nd2 := nd
    rw [List.nodup_append] at nd2
    rw [if_neg fun h => nd2.2.2 _ h b.name (by simp) rfl]
    exact chk_go r _ _ (fun b hb' => hb b (by simp [hb'])) (by rw [List.append_assoc]; exact nd)
theorem chk_good {n : Nat} {bs : List Band} (h12 : bs.length ≤ 12) (hb : ∀ b ∈ bs, b.Ok n) (nd : (bs.map (·.name)).Nodup) : chkBands (.tup (bs.map Band.d)) n = none := by
  unfold chkBands
  dsimp only
  rw [if_pos (by rw [List.length_map]; exact h12), chk_go bs [] 0 hb (by simpa using nd)]
  rfl
def bFs (h w : Nat) (bs : List Band) : List (Str × D) := [("high", .int h), ("wide", .int w), ("bands", .tup (bs.map Band.d))]
theorem bFs_eq (x y z : D) : putD "bands" z (putD "wide" y (putD "high" x [])) = ([(("high" : Str), x), (("wide" : Str), y), (("bands" : Str), z)] : List (Str × D)) := by
  have n1 : ¬ (("high" : Str) = "wide") := by decide +kernel
  have n2 : ¬ (("high" : Str) = "bands") := by decide +kernel
  have n3 : ¬ (("wide" : Str) = "bands") := by decide +kernel
  simp only [putD, if_neg n1, if_neg n2, if_neg n3]
/-- the product of two things that are numbers -/
def prodD : D → D → Int
  | .int h, .int w => h * w
  | _, _ => 0
def hiS : List Nat := [104, 105, 103, 104]
def wiS : List Nat := [119, 105, 100, 101]
/-- what a Board is made of, or why not -/
def mkBoard (x y z : D) : Option Exn := if withinB x 1 6 = true then (if withinB y 1 6 = true then (chkBands z (prodD x y)).map fun e => ⟨"NoBands", ["number"], [e]⟩ else some ⟨"NoSize", ["part"], [.str wiS]⟩) else some ⟨"NoSize", ["part"], [.str hiS]⟩
def φ_Board_init : FSp := fun ds S Q E => match ds with
  | [.obj a, x, y, z] => Ak S x ∧ Ak S y ∧ (Ak S z ∧ szOk z ∧ bandsAk S z) ∧ S a = some (.ins "Board" []) ∧ (match mkBoard x y z with | some e => E e S | none => Q .non (S.set a (.ins "Board" [("high", x), ("wide", y), ("bands", z)])))
  | _ => False
theorem Tab.Cl.at {C : Str} {fs : List Str} (h : T.Cl C fs) {f : Str} (hf : f ∈ fs) : f ∈ T.flds C := h f hf
theorem ok_Board_init (f0 : T.Fn "is_within" φ_is_within) (f1 : T.Fn "check_bands" φ_check_bands) (c0 : T.con "MOST_SIDE" = some (.int 6)) (k0 : T.Cl "Board" ["high", "wide", "bands"]) (x0 : T.Xc "NoSize" (some "part") true) : Ok T n_Board_init b_Board_init φ_Board_init := by
  intro ds S Q E hφ
  match ds, hφ with
  | [.obj a, x, y, z], ⟨kx, ky, ⟨kz, sz, bz⟩, hS, q⟩ =>
    have rS : ∀ {s : List Nat}, s.length ≤ 1000 → E ⟨"NoSize", ["part"], [.str s]⟩ S → strOk true (.str s) ∧ ∃ S2, Sub S2 S ∧ E ⟨"NoSize", ["part"], [.str s]⟩ S2 := fun hl he => ⟨fun _ => .inl ⟨_, rfl, hl⟩, S, Sub.refl S, he⟩
    simp_all_arith! [b_Board_init, n_Board_init, x_call f0, c0, e_is_within, t_raise x0]
    refine ⟨kx, ?_⟩
    unfold mkBoard at q
    cases i1 : withinB x 1 6 with
    | false =>
      rw [i1] at q
      simp_all_arith! [t_raise x0]
      exact rS (by decide) q
    | true =>
      rw [i1] at q
      simp_all_arith! [c_Board_init_4, x_call f0, c0, e_is_within, t_raise x0]
      refine ⟨ky, ?_⟩
      cases i2 : withinB y 1 6 with
      | false =>
        rw [i2] at q
        simp_all_arith! [t_raise x0]
        exact rS (by decide) q
      | true =>
        rw [i2] at q
        obtain ⟨h, rfl, h1, h6⟩ := within_int i1
        obtain ⟨w, rfl, w1, w6⟩ := within_int i2
        simp only [if_true, prodD] at q
        simp_all_arith! [c_Board_init_3, x_call f1, e_check_bands]
        refine ⟨.inl (by omega), kz, sz, bz, ?_⟩
        cases hc : chkBands z (h * w) with
        | some e =>
          rw [hc] at q
          exact ⟨S, Sub.refl S, q⟩
        | none =>
          rw [hc] at q
          dsimp only
          simp_all_arith! [c_Board_init_2]
          refine ⟨a, _, _, rfl, hS, k0.at (by simp), by decide, ?_⟩
          simp_all_arith! [c_Board_init_1]
          refine ⟨a, _, _, rfl, Sto.set_same, k0.at (by simp), by simp [putD], ?_⟩
          simp_all_arith! [c_Board_init_0]
          refine ⟨a, _, _, rfl, Sto.set_same, k0.at (by simp), ?_, ?_⟩
          · simp only [putD]; split <;> simp
          · refine ⟨_, Sub.refl _, ?_⟩
            rw [Sto.set_set, Sto.set_set, bFs_eq]
            exact q
theorem mk_good {h w : Nat} {bs : List Band} (k : BOk h w bs) : mkBoard (.int h) (.int w) (.tup (bs.map Band.d)) = none := by
  have h1 := k.h0
  have h2 := k.h6
  have h3 := k.w0
  have h4 := k.w6
  unfold mkBoard
  rw [show withinB (.int h) 1 6 = true by simp only [withinB, Bool.and_eq_true, decide_eq_true_eq]; omega, show withinB (.int w) 1 6 = true by simp only [withinB, Bool.and_eq_true, decide_eq_true_eq]; omega]
  simp only [if_true, prodD]
  rw [← Int.natCast_mul, chk_good k.b12 k.ok k.nd]
  rfl
/-- Board(h, w, bands) -/
theorem brd_mk {h w : Nat} {bs : List Band} {a : Addr} {S : Sto} {Q : QV} {E : QX} (k : BOk h w bs) (ha : S a = none) (q : Q (brd h w bs) S) :
    φ_Board_init [.obj a, .int h, .int w, .tup (bs.map Band.d)] (S.set a (.ins "Board" [])) (fun d S2 => d = .non ∧ frz true a "Board" S2 Q) E := by
  refine ⟨ak_int.mpr trivial, ak_int.mpr trivial, ⟨ak_tup.mpr trivial, ?_, fun _ d hd => ?_⟩, Sto.set_same, ?_⟩
  · show (bs.map Band.d).length ≤ lim; rw [List.length_map]; have := k.b12; unfold lim; omega
  · obtain ⟨b, hb, rfl⟩ := List.mem_map.mp hd
    exact bandAk_of (k.ok b hb) (by have := k.n36; omega)
  rw [mk_good k]
  refine ⟨rfl, ?_⟩
  unfold frz
  rw [if_pos rfl, Sto.set_set]
  refine ⟨_, Sto.set_same, ?_⟩
  rw [Sto.del_set ha]
  exact q
/-! ### what is asked of a board -/
theorem brd_ins {S : Sto} {h w : Nat} {bs : List Band} : insOf S (brd h w bs) = some (("Board" : Str), bFs h w bs) := rfl
theorem ak_brd {S : Sto} {h w : Nat} {bs : List Band} : Ak S (brd h w bs) ↔ True := ⟨fun _ => trivial, fun _ => ⟨_, rfl, by decide +kernel⟩⟩
theorem isO_brd {S : Sto} {h w : Nat} {bs : List Band} : isO S "Board" (brd h w bs) = true := by
  unfold isO
  rw [brd_ins]
  show (("Board" : Str) == "Board") = true
  decide +kernel
theorem a_high {h w : Nat} {bs : List Band} {S : Sto} {P : D → Prop} (k0 : T.Cl "Board" ["high", "wide", "bands"]) : (∃ C fs d, insOf S (brd h w bs) = some (C, fs) ∧ ("high" : Str) ∈ T.flds C ∧ fs.lookup ("high" : Str) = some d ∧ P d) = P (.int h) := by
  apply propext
  constructor
  · rintro ⟨C, fs, d, e, _, l, q⟩
    rw [brd_ins] at e
    cases e
    have e2 : (bFs h w bs).lookup ("high" : Str) = some (.int h) := rfl
    rw [e2] at l
    cases l
    exact q
  · intro q
    exact ⟨_, _, _, brd_ins, k0.at (by simp), rfl, q⟩
theorem a_wide {h w : Nat} {bs : List Band} {S : Sto} {P : D → Prop} (k0 : T.Cl "Board" ["high", "wide", "bands"]) : (∃ C fs d, insOf S (brd h w bs) = some (C, fs) ∧ ("wide" : Str) ∈ T.flds C ∧ fs.lookup ("wide" : Str) = some d ∧ P d) = P (.int w) := by
  apply propext
  constructor
  · rintro ⟨C, fs, d, e, _, l, q⟩
    rw [brd_ins] at e
    cases e
    have e2 : (bFs h w bs).lookup ("wide" : Str) = some (.int w) := rfl
    rw [e2] at l
    cases l
    exact q
  · intro q
    exact ⟨_, _, _, brd_ins, k0.at (by simp), rfl, q⟩
theorem tyB (k0 : T.Cl "Board" ["high", "wide", "bands"]) : tyOk T (.o "Board") := ⟨⟨"high", k0.at (by simp)⟩, by decide +kernel⟩
def φ_check_board : FSp := fun ds S Q E => match ds with
  | [x] => Ak S x ∧ (if isO S "Board" x = true then Q .non S else E ⟨"NoBoard", ["board"], [x]⟩ S)
  | _ => False
theorem e_check_board {x : D} {S : Sto} {Q : QV} {E : QX} : φ_check_board [x] S Q E = (Ak S x ∧ (if isO S "Board" x = true then Q .non S else E ⟨"NoBoard", ["board"], [x]⟩ S)) := rfl -- phi
theorem ok_check_board (k0 : T.Cl "Board" ["high", "wide", "bands"]) (x0 : T.Xc "NoBoard" (some "board") false) : Ok T n_check_board b_check_board φ_check_board := by
  intro ds S Q E hφ
  match ds, hφ with
  | [x], ⟨hk, q⟩ =>
    simp_all_arith! [b_check_board, n_check_board, x_isiO (tyB k0), t_raise x0]
    refine ⟨hk, ?_⟩
    cases hb : isO S "Board" x with
    | true =>
      rw [if_pos hb] at q
      exact ⟨S, Sub.refl S, q⟩
    | false =>
      rw [hb, if_neg (by simp)] at q
      simp_all_arith! [t_raise x0]
      exact ⟨(fun z => by cases z), S, Sub.refl S, q⟩
def coloursB (x : D) : Bool := match x with
  | .str s => s.all fun c => decide (c ∈ abc)
  | _ => false
def φ_are_colours : FSp := fun ds S Q E => match ds with
  | [x] => Ak S x ∧ szOk x ∧ Q (.bl (coloursB x)) S
  | _ => False
theorem e_are_colours {x : D} {S : Sto} {Q : QV} {E : QX} : φ_are_colours [x] S Q E = (Ak S x ∧ szOk x ∧ Q (.bl (coloursB x)) S) := rfl -- phi
theorem colour_one (c : Nat) : lettersB (.str [c]) 1 = decide (c ∈ abc) := by
  simp [lettersB]
theorem ok_are_colours (f0 : T.Fn "is_colour" (φ_lett 1)) : Ok T n_are_colours b_are_colours φ_are_colours := by
  intro ds S Q E hφ
  match ds, hφ with
  | [x], ⟨hk, hs, q⟩ =>
    simp_all_arith! [b_are_colours, n_are_colours]
    refine ⟨hk, ?_⟩
    cases x with
    | str s =>
      refine ⟨_, rfl, ?_⟩
      refine wLc_pure (fun d => .bl (lettersB d 1)) (fun _ => true) trivial (fun d hd k1 k0 hk1 hk0 => ?_) (by rw [List.length_map]; simpa using (show s.length ≤ lim from hs)) ?_
      · obtain ⟨c, hc, rfl⟩ := List.mem_map.mp hd
        simp_all_arith! [x_call f0, φ_lett, szOk]
        exact ⟨by decide, hk1 rfl⟩
      · rw [filter_all, List.nil_append, List.map_map]
        refine ⟨s.map fun c => decide (c ∈ abc), ?_, S, Sub.refl S, ?_⟩
        · rw [List.map_map]
          exact List.map_congr_left fun c _ => congrArg D.bl (colour_one c)
        · rw [all_id]; exact q
    | _ => exact ⟨S, Sub.refl S, q⟩
def φ_how_many : FSp := fun ds S Q E => match ds with
  | [x] => ∃ h w bs, x = brd h w bs ∧ BOk h w bs ∧ Q (.int ((h * w : Nat) : Int)) S
  | _ => False
theorem e_how_many {x : D} {S : Sto} {Q : QV} {E : QX} : φ_how_many [x] S Q E = (∃ h w bs, x = brd h w bs ∧ BOk h w bs ∧ Q (.int ((h * w : Nat) : Int)) S) := rfl -- phi
theorem ok_how_many (k0 : T.Cl "Board" ["high", "wide", "bands"]) : Ok T n_how_many b_how_many φ_how_many := by
  intro ds S Q E hφ
  match ds, hφ with
  | [x], h =>
    obtain ⟨h, w, bs, rfl, k, q⟩ := h
    simp_all_arith! [b_how_many, n_how_many, a_high k0, a_wide k0]
    refine ⟨.inl (by have := k.h6; omega), S, Sub.refl S, ?_⟩
    rw [Int.natCast_mul] at q
    exact q
def picB (x : D) (n : Nat) : Bool := coloursB x && (match x with | .str s => decide (s.length = n) | _ => false)
def φ_is_picture : FSp := fun ds S Q E => match ds with
  | [x, y] => Ak S x ∧ Ak S y ∧ szOk y ∧ (if isO S "Board" x = true then ∃ h w bs, x = brd h w bs ∧ BOk h w bs ∧ Q (.bl (picB y (h * w))) S else E ⟨"NoBoard", ["board"], [x]⟩ S)
  | _ => False
theorem e_is_picture {x : D} {y : D} {S : Sto} {Q : QV} {E : QX} : φ_is_picture [x, y] S Q E = (Ak S x ∧ Ak S y ∧ szOk y ∧ (if isO S "Board" x = true then ∃ h w bs, x = brd h w bs ∧ BOk h w bs ∧ Q (.bl (picB y (h * w))) S else E ⟨"NoBoard", ["board"], [x]⟩ S)) := rfl -- phi
theorem beq_nat (a b : Nat) : beq (.int a) (.int b) = decide (a = b) := by
  unfold beq
  by_cases h : a = b
  · subst h; simp
  · rw [decide_eq_false h]; simpa using fun z => h (by omega)
theorem ok_is_picture (f0 : T.Fn "check_board" φ_check_board) (f1 : T.Fn "are_colours" φ_are_colours) (f2 : T.Fn "how_many" φ_how_many) : Ok T n_is_picture b_is_picture φ_is_picture := by
  intro ds S Q E hφ
  match ds, hφ with
  | [x, y], hh =>
    obtain ⟨hkx, hk, hs, q⟩ := hh
    simp_all_arith! [b_is_picture, n_is_picture, x_call f0, e_check_board]
    refine ⟨hkx, ?_⟩
    by_cases hbb : isO S "Board" x = true
    rotate_left
    · rw [if_neg hbb] at q ⊢
      exact ⟨S, Sub.refl S, q⟩
    rw [if_pos hbb] at q ⊢
    obtain ⟨h, w, bs, rfl, k, q⟩ := q
    simp_all_arith! [c_is_picture_0, x_call f1, e_are_colours]
    refine ⟨hk, hs, ?_⟩
    cases hc : coloursB y with
    | false => exact ⟨S, Sub.refl S, by simp only [picB, hc, Bool.false_and] at q; exact q⟩
    | true =>
      cases y with
      | str s =>
        simp_all_arith! [x_call f2, e_how_many]
        refine ⟨hs, h, w, bs, rfl, k, S, Sub.refl S, ?_⟩
        simp only [picB, hc, Bool.true_and] at q
        rw [decide_eq_decide.mpr (Int.ofNat_inj (m := s.length) (n := h * w))]
        exact q
      | _ => cases hc
end
/-! P3: strokes and histories. -/
abbrev Stroke := List Nat × Nat
def StOk (bs : List Band) (p : Stroke) : Prop := ∃ b ∈ bs, b.name = p.1 ∧ p.2 ∈ b.pots
def HsOk (bs : List Band) (hs : List Stroke) : Prop := hs.length ≤ 60 ∧ ∀ p ∈ hs, StOk bs p
section
variable {T : Tab}
/-! ### who was last -/
theorem jn_nil : ∀ ss : List (List Nat), jn [] ss = ss.flatten
  | [] => rfl
  | [p] => by simp [jn]
  | p :: q :: r => by
    unfold jn
    rw [jn_nil (q :: r)]
    simp
theorem flat_one {α : Type} (ts : List α) : (ts.map fun c => [c]).flatten = ts := by
  induction ts with
  | nil => rfl
  | cons c r ih => simp [ih]
theorem sum_one {α : Type} (ts : List α) : ((ts.map fun c => [c]).map List.length).sum = ts.length := by
  induction ts with
  | nil => rfl
  | cons c r ih => rw [List.map_cons, List.map_cons, List.sum_cons, ih]; simp; omega
/-- single signs glued -/
theorem join_signs {S : Sto} {Q : QV} {ts : List Nat} (hl : ts.length ≤ lim) (q : Q (.str ts) S) : meS .join (.str []) [.lst (ts.map fun c => .str [c])] S Q := by
  refine ⟨_, ts.map fun c => [c], rfl, by rw [List.map_map]; rfl, ?_, ?_⟩
  · rw [sum_one, List.length_nil, Nat.mul_zero, Nat.add_zero]; exact hl
  · rw [jn_nil, flat_one]; exact q
end
def c_cell_0 : Ss := (.cons (.ret (.loc 2)) .nil)
def c_cell_1 : Ss := (.cons (.for (.name 3) (.seq (.sl (.loc 0) .no (.yes (.const (.int 4))))) (.cons (.asg (.name 2) (.bin .Mod (.bin .Add (.bin .Mult (.loc 2) (.const (.int 30011))) (.loc 3)) (.const (.int 1000000181)))) .nil)) c_cell_0)
def c_cell_2 : Ss := (.cons (.asg (.name 2) (.bin .Mod (.bin .Mult (.const (.int 40009)) (.bin .Add (.bin .Add (.bin .Mult (.loc 1) (.loc 1)) (.bin .Mult (.const (.int 11)) (.loc 1))) (.const (.int 7)))) (.const (.int 1000000181)))) c_cell_1)
def b_cell : Ss := (.cons (.ife (.cmp .Lt (.loc 1) (.bi true .len (.cons (.loc 0) .nil))) (.cons (.ret (.sub (.loc 0) (.loc 1))) .nil) .nil) c_cell_2)
def n_cell : Nat := 4
def b_purse : Ss := (.cons (.ret (.lst false (.cons (.bin .Add (.bin .Mult (.bin .Mod (.loc 0) (.const (.int 1000000181))) (.const (.int 5003))) (.const (.int 3001))) (.cons (.sub (.lst true (.cons (.const (.int 0)) (.cons (.loc 0) .nil))) (.bi true .int (.cons (.cmp .GtE (.loc 0) (.bin .Pow (.const (.int 10)) (.const (.int 18)))) .nil))) (.cons (.const (.int 0)) .nil))))) .nil)
def n_purse : Nat := 1
def c_pick_0 : Ss := (.cons (.ret (.loc 3)) .nil)
def c_pick_1 : Ss := (.cons (.asg (.sub (.loc 0) (.const (.int 1))) (.bin .FloorDiv (.sub (.loc 0) (.const (.int 1))) (.loc 1))) c_pick_0)
def c_pick_2 : Ss := (.cons (.ret (.bin .Mod (.bin .FloorDiv (.bin .Mod (.sub (.loc 0) (.const (.int 0))) (.const (.int 1000000181))) (.const (.int 16))) (.loc 1))) .nil)
def c_pick_3 : Ss := (.cons (.ife (.cmp .Gt (.sub (.loc 0) (.const (.int 1))) (.const (.int 0))) (.cons (.asg (.name 3) (.bin .Mod (.sub (.loc 0) (.const (.int 1))) (.loc 1))) c_pick_1) .nil) c_pick_2)
def c_pick_4 : Ss := (.cons (.asg (.sub (.loc 0) (.const (.int 0))) (.bin .Add (.bin .Mult (.loc 2) (.bin .Add (.bin .Mod (.loc 2) (.const (.int 50021))) (.const (.int 10007)))) (.bin .Mult (.const (.int 70001)) (.sub (.loc 0) (.const (.int 2)))))) c_pick_3)
def c_pick_5 : Ss := (.cons (.asg (.name 2) (.bin .Mod (.sub (.loc 0) (.const (.int 0))) (.const (.int 1000000181)))) c_pick_4)
def b_pick : Ss := (.cons (.asg (.sub (.loc 0) (.const (.int 2))) (.bin .Add (.sub (.loc 0) (.const (.int 2))) (.const (.int 1)))) c_pick_5)
def n_pick : Nat := 4
/-! H1: what the laws draw: numbers, names, cells, pots. -/
section
variable {T : Tab} {f0 f1 f2 f3 : Str}
/-- a list of drawn things -/
theorem wLc_draw {α : Type} (P : Nat → α → Prop) (enc : α → D) {a : Addr} {set : D → Sl → (Sl → Prop) → Prop} {test : Sl → Sto → (Bool → Sto → Prop) → Prop} {elt : Sl → Sto → QV → Prop} {same : Sto → Prop} {ρ : Sl} {S : Sto} {ds : List D} {Q : List D → Sto → Prop} (hps : PS a S) (hl : ds.length < lim)
    (h : ∀ j d S', ds[j]? = some d → Kp a S S' → same S' ∧ ∀ (k1 : D → Sto → Prop) (k0 : Sto → Prop), (∀ x S2, P j x → Kp a S S2 → k1 (enc x) S2) → set d ρ fun ρ1 => test ρ1 S' fun b S1 => if b = true then elt ρ1 S1 k1 else k0 S1)
    (hq : ∀ (xs : List α) S', xs.length = ds.length → (∀ j x, xs[j]? = some x → P j x) → Kp a S S' → same S' ∧ Q (xs.map enc) S') : wLc set test elt same ρ ds [] S Q := by
  refine wLc_inv (fun i acc S' => ∃ xs : List α, acc = xs.map enc ∧ xs.length = i ∧ (∀ j x, xs[j]? = some x → P j x) ∧ Kp a S S') 0 ⟨[], rfl, rfl, (fun j x e => by simp at e), Kp.refl hps⟩ ?_ ?_ ?_
  · rintro j d acc S' hj ⟨xs, rfl, hxl, hP, hK⟩
    obtain ⟨h1, h2⟩ := h j d S' hj hK
    refine ⟨h1, fun k1 k0 hk1 hk0 => h2 k1 k0 fun x S2 px kp => hk1 _ _ ⟨xs ++ [x], by rw [List.map_append]; rfl, by rw [List.length_append, hxl]; rfl, fun i y hy => ?_, kp⟩⟩
    rw [Nat.zero_add] at hxl
    by_cases hi : i < xs.length
    · rw [List.getElem?_append_left hi] at hy; exact hP i y hy
    · rw [List.getElem?_append_right (by omega)] at hy
      have : i - xs.length = 0 := by
        have := (List.getElem?_eq_some_iff.mp hy).1
        simp at this
        omega
      rw [this] at hy
      simp at hy
      subst hy
      have : i = j := by omega
      rw [this]; exact px
  · rintro j acc S' hj ⟨xs, rfl, hxl, _, _⟩
    rw [List.length_map, hxl]; omega
  · rintro acc S' ⟨xs, rfl, hxl, hP, hK⟩
    rw [Nat.zero_add] at hxl
    exact hq xs S' hxl hP hK
def φ_cell : FSp := fun ds S Q E => match ds with
  | [x, .int k] => ∃ ns : List Int, x = .lsk (ns.map .int) ∧ ns.length ≤ 63 ∧ 0 ≤ k ∧ k ≤ 1000 ∧ ∀ z, Q (.int z) S
  | _ => False
theorem e_cell {x : D} {k : Int} {S : Sto} {Q : QV} {E : QX} : φ_cell [x, .int k] S Q E = (∃ ns : List Int, x = .lsk (ns.map .int) ∧ ns.length ≤ 63 ∧ 0 ≤ k ∧ k ≤ 1000 ∧ ∀ z, Q (.int z) S) := rfl -- phi
theorem ok_cell : Ok T n_cell b_cell φ_cell := by
  intro ds S Q E hφ
  match ds, hφ with
  | [x, .int k], hh =>
    obtain ⟨ns, rfl, hn, k0, k1, q⟩ := hh
    simp_all_arith! [b_cell, n_cell, List.length_map]
    by_cases hk : k < (ns.length : Int)
    · rw [decide_eq_true hk]
      obtain ⟨y, hy, e⟩ := atI_mem (l := ns.map D.int) k0 (by rw [List.length_map]; exact hk)
      obtain ⟨z, hz, rfl⟩ := List.mem_map.mp hy
      simp_all_arith! [wFn]
      exact ⟨_, _, rfl, e, S, Sub.refl S, q z⟩
    · rw [decide_eq_false hk]
      simp_all_arith! [c_cell_2]
      refine ⟨.inl (by omega), .inl (by omega), .inl (by omega), by omega, ?_⟩
      simp_all_arith! [c_cell_1]
      refine ⟨_, rfl, ?_⟩
      refine wFor_inv (fun i ρ S' => S' = S ∧ ∃ s x3, ρ = [some (.lsk (ns.map .int)), some (.int k), some (.int s), x3]) 0 ⟨rfl, _, _, rfl⟩ ?_ ?_
      · rintro j d ρ S' hj ⟨rfl, s, x3, rfl⟩
        have hm := cut_mem (List.mem_of_getElem? hj)
        obtain ⟨z, hz, rfl⟩ := List.mem_map.mp hm
        refine ⟨trivial, fun nx hnx => ?_⟩
        simp_all_arith! [wFn]
        exact ⟨.inr (by decide), by decide, hnx _ _ ⟨rfl, _, _, rfl⟩⟩
      · rintro ρ S' ⟨rfl, s, x3, rfl⟩
        refine ⟨trivial, ?_⟩
        simp_all_arith! [c_cell_0]
        exact ⟨S', Sub.refl S', q s⟩
def φ_purse : FSp := fun ds S Q E => match ds with
  | [.int z] => ∀ b S', S b = none → PS b S' → (∀ c o, c ≠ b → S c = some o → S' c = some o) → Q (.obj b) S'
  | _ => False
theorem ok_purse : Ok T n_purse b_purse φ_purse := by
  intro ds S Q E hφ
  match ds, hφ with
  | [.int z], q =>
    simp_all_arith! [b_purse, n_purse]
    have e : ∀ b : Bool, ∃ y, atI [D.int 0, D.int z] (if b = true then 1 else 0) = some (.int y) := by
      intro b; cases b
      · exact ⟨0, rfl⟩
      · exact ⟨z, rfl⟩
    refine ⟨by decide, .inr (by decide), by decide, by decide, by decide, by decide, ?_⟩
    obtain ⟨y, hy⟩ := e (decide ((10 : Int) ^ (18 : Int).toNat ≤ z))
    refine ⟨_, _, rfl, hy, by decide, ?_⟩
    intro b hb
    exact ⟨_, Sub.refl _, q b _ hb ⟨_, _, _, Sto.set_same⟩ fun c o n e => by rw [Sto.set_ne n]; exact e⟩
def φ_pick : FSp := fun ds S Q E => match ds with
  | [.obj a, .int n] => PS a S ∧ 0 < n ∧ n < 1073741824 ∧ ∀ (r : Nat) S', (r : Int) < n → Kp a S S' → Q (.int r) S'
  | _ => False
theorem e_pick {a : Addr} {n : Int} {S : Sto} {Q : QV} {E : QX} : φ_pick [.obj a, .int n] S Q E = (PS a S ∧ 0 < n ∧ n < 1073741824 ∧ ∀ (r : Nat) S', (r : Int) < n → Kp a S S' → Q (.int r) S') := rfl -- phi
theorem ok_pick : Ok T n_pick b_pick φ_pick := by
  intro ds S Q E hφ
  match ds, hφ with
  | [.obj a, .int n], hh =>
    obtain ⟨⟨s, d, c, hS⟩, n0, n1, q⟩ := hh
    have fin : ∀ r s d c : Int, 0 ≤ r → r < n → Q (.int r) (S.set a (.lst [.int s, .int d, .int c])) := fun r s d c h0 h1 => by
      have := q r.toNat _ (by omega) (Kp.put (a := a) (S := S) s d c)
      rw [Int.toNat_of_nonneg h0] at this
      exact this
    simp_all_arith! [b_pick, n_pick]
    rw [i_obj hS]
    refine ⟨2, _, rfl, rfl, ?_⟩
    simp_all_arith! [wFn]
    rw [put_lst hS]
    refine ⟨2, 2, rfl, rfl, ?_⟩
    simp_all_arith! [c_pick_5]
    rw [i_obj Sto.set_same]
    refine ⟨0, _, rfl, rfl, ?_⟩
    simp_all_arith! [wFn]
    refine ⟨by decide, ?_⟩
    simp_all_arith! [c_pick_4]
    have hm0 : 0 ≤ s % 1000000181 := Int.emod_nonneg _ (by decide)
    have hm1 : s % 1000000181 < 1000000181 := Int.emod_lt_of_pos _ (by decide)
    refine ⟨by decide, .inl (by omega), ?_⟩
    rw [i_obj Sto.set_same]
    refine ⟨2, _, rfl, rfl, ?_⟩
    simp_all_arith! [wFn]
    refine ⟨.inl (by decide), ?_⟩
    rw [put_lst Sto.set_same]
    refine ⟨0, 0, rfl, rfl, ?_⟩
    rw [Sto.set_set]
    simp_all_arith! [c_pick_3]
    rw [i_obj Sto.set_same]
    refine ⟨1, _, rfl, rfl, ?_⟩
    simp_all_arith! [wFn]
    by_cases hd : 0 < d
    · rw [decide_eq_true hd]
      simp_all_arith! [wFn]
      rw [i_obj Sto.set_same]
      refine ⟨1, _, rfl, rfl, ?_⟩
      simp_all_arith! [wFn]
      refine ⟨n0, ?_⟩
      simp_all_arith! [c_pick_1]
      rw [i_obj Sto.set_same]
      refine ⟨1, _, rfl, rfl, ?_⟩
      simp_all_arith! [wFn]
      refine ⟨n0, n1, ?_⟩
      rw [put_lst Sto.set_same]
      refine ⟨1, 1, rfl, rfl, ?_⟩
      rw [Sto.set_set]
      simp_all_arith! [c_pick_0]
      exact ⟨_, Sub.refl _, fin _ _ _ _ (Int.emod_nonneg _ (by omega)) (Int.emod_lt_of_pos _ n0)⟩
    · rw [decide_eq_false hd]
      simp_all_arith! [c_pick_2]
      rw [i_obj Sto.set_same]
      refine ⟨0, _, rfl, rfl, ?_⟩
      simp_all_arith! [wFn]
      exact ⟨by decide, by decide, by decide, n0, _, Sub.refl _, fin _ _ _ _ (Int.emod_nonneg _ (by omega)) (Int.emod_lt_of_pos _ n0)⟩
end
/-! H2: names, cells, pots, bands, histories that are drawn. -/
/-! H3: cells, pots, bands, histories that are drawn. -/
/-! H4: pots, bands, histories that are drawn; a picture painted stroke by stroke. -/
section
variable {T : Tab} {f0 f1 f2 f3 : Str}
theorem insU_len (x : List Nat) : ∀ l : List (List Nat), (insU x l).length ≤ l.length + 1
  | [] => by simp [insU]
  | y :: r => by
    unfold insU
    split
    · simp
    · split
      · have := insU_len x r
        simp only [List.length_cons]; omega
      · simp
theorem sortU_len : ∀ l : List (List Nat), (sortU l).length ≤ l.length
  | [] => by simp [sortU]
  | y :: r => by
    have h1 := sortU_len r
    have h2 := insU_len y (sortU r)
    show (insU y (sortU r)).length ≤ _
    simp only [List.length_cons]; omega
theorem one_lt' {a b : Nat} : [a] < [b] ↔ a < b := by
  have := one_lt (a := a) (b := b)
  rw [decide_eq_decide] at this
  exact this
theorem ones_of : ∀ (l : List (List Nat)), (∀ x ∈ l, ∃ c, x = [c]) → ∃ cs : List Nat, l = cs.map fun c => [c]
  | [], _ => ⟨[], rfl⟩
  | x :: r, h => by
    obtain ⟨c, rfl⟩ := h x (by simp)
    obtain ⟨cs, rfl⟩ := ones_of r fun y hy => h y (by simp [hy])
    exact ⟨c :: cs, rfl⟩
/-- signs put in order, each once -/
theorem sort_signs (ts : List Nat) : ∃ cs : List Nat, sortU (ts.map fun c => [c]) = (cs.map fun c => [c]) ∧ cs.Pairwise (· < ·) ∧ (∀ c, c ∈ cs ↔ c ∈ ts) ∧ cs.length ≤ ts.length := by
  obtain ⟨cs, e⟩ := ones_of (sortU (ts.map fun c => [c])) fun x hx => by
    obtain ⟨c, _, rfl⟩ := List.mem_map.mp (mem_sortU.mp hx)
    exact ⟨c, rfl⟩
  refine ⟨cs, e, ?_, fun c => ?_, ?_⟩
  · have := sortU_up (ts.map fun c => [c])
    rw [e, List.pairwise_map] at this
    exact this.imp fun h => one_lt'.mp h
  · have h1 : [c] ∈ sortU (ts.map fun c => [c]) ↔ [c] ∈ ts.map fun c => [c] := mem_sortU
    rw [e] at h1
    simpa using h1
  · have := sortU_len (ts.map fun c => [c])
    rw [e, List.length_map, List.length_map] at this
    exact this
/-! ### bands -/
theorem Kp.at {a p : Addr} {S S' : Sto} {o : O} (k : Kp a S S') (ne : p ≠ a) (e : S p = some o) : S' p = some o := k.2 p o ne e
theorem Kp.set {a p : Addr} {S S' : Sto} {o : O} (k : Kp a S S') (ne : p ≠ a) (h : ∀ o, S p ≠ some o) : Kp a S (S'.set p o) := by
  obtain ⟨⟨s, d, c, e⟩, k2⟩ := k
  refine ⟨⟨s, d, c, by rw [Sto.set_ne (Ne.symm ne)]; exact e⟩, fun b u nb e' => ?_⟩
  have : b ≠ p := fun z => h u (z ▸ e')
  rw [Sto.set_ne this]
  exact k2 b u nb e'
/-! ### histories -/
/-! ### painted, stroke by stroke -/
end
/-! P4: how things are shown; the last stroke at a cell. -/
def sgnOk (c : Nat) : Bool := c == 10 || (decide (32 ≤ c) && decide (c ≤ 126))
mutual
/-- small things, shown in few signs -/
def shw : D → Bool
  | .non | .bl _ => true
  | .int i => decide (i.natAbs < 10 ^ 9)
  | .str s => s.all sgnOk
  | .tup xs | .lst xs => shws xs
  | _ => false
def shws : List D → Bool
  | [] => true
  | d :: ds => shw d && shws ds
end
mutual
def rsz : D → Nat
  | .non | .bl _ => 5
  | .int _ => 12
  | .str s => 2 * s.length + 2
  | .tup xs | .lst xs => rszs xs + 4
  | _ => 5
def rszs : List D → Nat
  | [] => 0
  | d :: ds => rsz d + 2 + rszs ds
end
theorem reprChar_len : ∀ c : Fin 127, sgnOk c.val = true → (Builtin.Str.reprChar 39 c.val).length ≤ 2 ∧ (Builtin.Str.reprChar 34 c.val).length ≤ 2 := by decide +kernel
theorem reprChar_le {c q : Nat} (h : sgnOk c = true) (hq : q = 39 ∨ q = 34) : (Builtin.Str.reprChar q c).length ≤ 2 := by
  have hc : c < 127 := by
    unfold sgnOk at h
    simp only [Bool.or_eq_true, beq_iff_eq, Bool.and_eq_true, decide_eq_true_eq] at h
    omega
  have := reprChar_len ⟨c, hc⟩ h
  rcases hq with rfl | rfl
  · exact this.1
  · exact this.2
theorem reprText_len {s : List Nat} (h : s.all sgnOk = true) : (reprText (mkS s)).length ≤ 2 * s.length + 2 := by
  have hq : reprQuote (mkS s) = 39 ∨ reprQuote (mkS s) = 34 := by unfold reprQuote; split <;> simp
  rw [← reprLen_eq]
  generalize reprQuote (mkS s) = q at hq
  show (Array.foldl (fun n c => n + (Builtin.Str.reprChar q c).length) 2 s.toArray) ≤ _
  rw [← Array.foldl_toList, List.toList_toArray]
  have key : ∀ (l : List Nat) (n : Nat), l.all sgnOk = true → l.foldl (fun n c => n + (Builtin.Str.reprChar q c).length) n ≤ 2 * l.length + n := by
    intro l
    induction l with
    | nil => intro n _; simp
    | cons c r ih =>
      intro n hl
      rw [List.all_cons, Bool.and_eq_true] at hl
      have := reprChar_le hl.1 hq
      have := ih (n + (Builtin.Str.reprChar q c).length) hl.2
      rw [List.foldl_cons, List.length_cons]
      omega
  have := key s 2 h
  omega
theorem str_app_len (a b : Str) : (a ++ b).length = a.length + b.length := by
  show (a.cps ++ b.cps).size = _
  rw [Array.size_append]
  rfl
theorem textFrom_le : ∀ (ts : List Str) (k : Nat) (acc : Str), (textFrom k acc ts).length ≤ acc.length + (ts.map fun t => t.length + 2).sum
  | [], k, acc => by unfold textFrom; simp
  | t :: ts, k, acc => by
    unfold textFrom
    have h := textFrom_le ts (k + 1) (acc ++ (if k > 0 then ", " else "" : String) ++ t)
    rw [str_app_len, str_app_len] at h
    rw [List.map_cons, List.sum_cons]
    have h2 : ((if k > 0 then ", " else "" : String) : Str).length ≤ 2 := by split <;> decide +kernel
    omega
theorem join_le : ∀ ts : List Str, (Str.join ", " ts).length ≤ (ts.map fun t => t.length + 2).sum
  | [] => by decide +kernel
  | [t] => by show t.length ≤ _; simp
  | t :: u :: ts => by
    have h := join_le (u :: ts)
    show ((t ++ ", ") ++ Str.join ", " (u :: ts)).length ≤ _
    rw [str_app_len, str_app_len, List.map_cons, List.sum_cons]
    have : (", " : Str).length = 2 := by decide +kernel
    omega
mutual
theorem shown_le : ∀ d : D, shw d = true → (toPy d).showable = true ∧ (toPy d).shown.length ≤ rsz d
  | .non, _ => by unfold toPy PyData.showable PyData.shown rsz; decide +kernel
  | .bl b, _ => by unfold toPy PyData.showable PyData.shown rsz; cases b <;> decide +kernel
  | .int i, h => by
    unfold shw at h
    rw [decide_eq_true_eq] at h
    unfold toPy PyData.showable PyData.shown rsz
    refine ⟨?_, digits_len h⟩
    rw [decide_eq_true_eq]
    by_cases z : i.natAbs = 0
    · rw [z]; decide
    · exact Nat.lt_trans ((Nat.log2_lt z).mpr (Nat.lt_of_lt_of_le h (by decide : 10 ^ 9 ≤ 2 ^ 30))) (by decide)
  | .str s, h => by
    unfold shw at h
    unfold toPy PyData.showable PyData.shown rsz
    exact ⟨rfl, reprText_len h⟩
  | .tup xs, h => by
    unfold shw at h
    obtain ⟨h1, h2⟩ := shownAll_le xs h
    unfold toPy PyData.showable PyData.shown rsz tupleText
    refine ⟨h1, ?_⟩
    rw [str_app_len, str_app_len]
    have := join_le (PyData.shownAll (toPys xs))
    have e1 : ("(" : Str).length = 1 := by decide +kernel
    have e2 : ((if (PyData.shownAll (toPys xs)).length == 1 then ",)" else ")" : String) : Str).length ≤ 2 := by split <;> decide +kernel
    omega
  | .lst xs, h => by
    unfold shw at h
    obtain ⟨h1, h2⟩ := shownAll_le xs h
    unfold toPy PyData.showable PyData.shown rsz listText
    refine ⟨h1, ?_⟩
    rw [str_app_len]
    have := textFrom_le (PyData.shownAll (toPys xs)) 0 "["
    have e1 : ("[" : Str).length = 1 := by decide +kernel
    have e2 : ("]" : Str).length = 1 := by decide +kernel
    omega
  | .lsk _, h => by unfold shw at h; cases h
  | .obj _, h => by unfold shw at h; cases h
  | .ty _, h => by unfold shw at h; cases h
  | .gl _, h => by unfold shw at h; cases h
  | .ins _ _ _, h => by unfold shw at h; cases h
  | .dct _ _, h => by unfold shw at h; cases h
  | .exn _ _ _, h => by unfold shw at h; cases h
theorem shownAll_le : ∀ ds : List D, shws ds = true → PyData.showableAll (toPys ds) = true ∧ ((PyData.shownAll (toPys ds)).map fun t => t.length + 2).sum ≤ rszs ds
  | [], _ => by unfold toPys PyData.showableAll PyData.shownAll rszs; exact ⟨rfl, Nat.le_refl _⟩
  | d :: ds, h => by
    unfold shws at h
    rw [Bool.and_eq_true] at h
    obtain ⟨a1, a2⟩ := shown_le d h.1
    obtain ⟨b1, b2⟩ := shownAll_le ds h.2
    unfold toPys PyData.showableAll PyData.shownAll rszs
    rw [a1, b1, List.map_cons, List.sum_cons]
    exact ⟨rfl, by omega⟩
end
mutual
theorem shw_plain : ∀ d : D, shw d = true → plain d = true
  | .non, _ => by unfold plain; rfl
  | .bl b, _ => by unfold plain; rfl
  | .int i, _ => by unfold plain; rfl
  | .str s, _ => by unfold plain; rfl
  | .tup xs, h => by unfold shw at h; unfold plain; exact shws_plain xs h
  | .lst xs, h => by unfold shw at h; unfold plain; exact shws_plain xs h
  | .lsk _, h => by unfold shw at h; cases h
  | .obj _, h => by unfold shw at h; cases h
  | .ty _, h => by unfold shw at h; cases h
  | .gl _, h => by unfold shw at h; cases h
  | .ins _ _ _, h => by unfold shw at h; cases h
  | .dct _ _, h => by unfold shw at h; cases h
  | .exn _ _ _, h => by unfold shw at h; cases h
theorem shws_plain : ∀ ds : List D, shws ds = true → plains ds = true
  | [], _ => by unfold plains; rfl
  | d :: ds, h => by
    unfold shws at h
    rw [Bool.and_eq_true] at h
    unfold plains
    rw [shw_plain d h.1, shws_plain ds h.2]; rfl
end
/-! ### of lists -/
theorem sgn_abc : ∀ c ∈ abc, sgnOk c = true := by decide
/-! P5: the last stroke at a cell, and what is painted. -/
theorem HsOk.sub {bs : List Band} {hs ks : List Stroke} (h : HsOk bs hs) (hs' : ∀ p ∈ ks, p ∈ hs) (hl : ks.length ≤ 60) : HsOk bs ks := ⟨hl, fun p hp => h.2 p (hs' p hp)⟩
/-! TP: peeling, in plain words. -/
/-! ### painted -/
def b_is_part : Ss := (.cons (.ret (.bool .And (.cons (.call "are_colours" (.cons (.loc 0) .nil) []) (.cons (.call "is_rising" (.cons (.loc 0) .nil) []) .nil)))) .nil)
def n_is_part : Nat := 1
def c_is_wish_0 : Ss := (.cons (.ret (.bool .And (.cons (.isi (.loc 1) (.b "tuple")) (.cons (.cmp .Eq (.bi true .len (.cons (.loc 1) .nil)) (.call "how_many" (.cons (.loc 0) .nil) [])) (.cons (.bi true .all (.cons (.lc true (.call "is_part" (.cons (.loc 2) .nil) []) (.name 2) (.seq (.loc 1)) .no) .nil)) .nil))))) .nil)
def b_is_wish : Ss := (.cons (.expr (.call "check_board" (.cons (.loc 0) .nil) [])) c_is_wish_0)
def n_is_wish : Nat := 3
/-! P8: wishes, and peeling. -/
theorem any_cells (cs : List Nat) (c : Nat) : ((cellsD cs).any fun z => beq z (.int (c : Nat))) = decide (c ∈ cs) := by
  unfold cellsD
  rw [List.any_map]
  induction cs with
  | nil => rfl
  | cons x r ih =>
    rw [List.any_cons, ih]
    show (beq (.int (x : Nat)) (.int (c : Nat)) || decide (c ∈ r)) = _
    rw [beq_nat]
    by_cases h : x = c
    · subst h; simp
    · simp [h, Ne.symm h]
theorem flat_cells (cs : List Nat) : (cellsD cs).all flat = true := by
  rw [List.all_eq_true]
  intro d hd
  obtain ⟨c, _, rfl⟩ := List.mem_map.mp hd
  rfl
theorem flat_int {i : Int} : flat (.int i) = true := rfl
theorem flat_str {s : List Nat} : flat (.str s) = true := rfl
theorem b_allM {α : Type} {fz : Bool} {S : Sto} {Q : QV} (l : List α) (p : α → Bool) (q : Q (.bl (l.all p)) S) : biS fz .all [.lst (l.map fun a => D.bl (p a))] S Q :=
  ⟨l.map p, by rw [List.map_map]; rfl, by rw [all_id]; exact q⟩
theorem beqs_cells : ∀ a b : List Nat, beqs (cellsD a) (cellsD b) = decide (a = b)
  | [], [] => by unfold cellsD beqs; rfl
  | [], y :: b => by unfold cellsD beqs; simp
  | x :: a, [] => by unfold cellsD beqs; simp
  | x :: a, y :: b => by
    show beqs (D.int x :: cellsD a) (D.int y :: cellsD b) = _
    unfold beqs
    rw [beqs_cells a b, beq_nat]
    by_cases h : x = y
    · subst h; simp
    · simp [h]
theorem plain_cs (cs : List Nat) : plains (cellsD cs) = true ∧ depths (cellsD cs) = 0 := by
  induction cs with
  | nil => exact ⟨rfl, rfl⟩
  | cons x r ih =>
    show plains (D.int x :: cellsD r) = true ∧ depths (D.int x :: cellsD r) = 0
    unfold plains depths
    rw [ih.1, ih.2]
    exact ⟨rfl, rfl⟩
theorem c_eqCT {S : Sto} {Q : QV} {a b : List Nat} : cmpS .Eq (.tup (cellsD a)) (.tup (cellsD b)) S Q = Q (.bl (decide (a = b))) S := by
  rw [c_eq]
  have e : beq (.tup (cellsD a)) (.tup (cellsD b)) = decide (a = b) := by unfold beq; exact beqs_cells a b
  have p : ∀ c, plain (.tup (cellsD c)) = true ∧ depth (.tup (cellsD c)) ≤ 64 := fun c => by unfold plain depth; rw [(plain_cs c).1, (plain_cs c).2]; exact ⟨rfl, by decide⟩
  rw [e]
  simp [(p a).1, (p a).2, (p b).1, (p b).2]
theorem c_neCT {S : Sto} {Q : QV} {a b : List Nat} : cmpS .NotEq (.tup (cellsD a)) (.tup (cellsD b)) S Q = Q (.bl (!decide (a = b))) S := by
  rw [c_ne]
  have e : beq (.tup (cellsD a)) (.tup (cellsD b)) = decide (a = b) := by unfold beq; exact beqs_cells a b
  have p : ∀ c, plain (.tup (cellsD c)) = true ∧ depth (.tup (cellsD c)) ≤ 64 := fun c => by unfold plain depth; rw [(plain_cs c).1, (plain_cs c).2]; exact ⟨rfl, by decide⟩
  rw [e]
  simp [(p a).1, (p a).2, (p b).1, (p b).2]
theorem c_neCL {S : Sto} {Q : QV} {a : List Nat} : cmpS .NotEq (.lst (cellsD a)) (.lst []) S Q = Q (.bl (!decide (a = []))) S := by
  rw [c_ne]
  have e : beq (.lst (cellsD a)) (.lst []) = decide (a = []) := by unfold beq; exact beqs_cells a []
  have p : ∀ c, plain (.lst (cellsD c)) = true ∧ depth (.lst (cellsD c)) ≤ 64 := fun c => by unfold plain depth; rw [(plain_cs c).1, (plain_cs c).2]; exact ⟨rfl, by decide⟩
  have p0 : plain (.lst []) = true ∧ depth (.lst []) ≤ 64 := ⟨rfl, by decide⟩
  rw [e]
  simp [(p a).1, (p a).2, p0.1, p0.2]
theorem c_eqCL {S : Sto} {Q : QV} {a : List Nat} : cmpS .Eq (.lst (cellsD a)) (.lst []) S Q = Q (.bl (decide (a = []))) S := by
  rw [c_eq]
  have e : beq (.lst (cellsD a)) (.lst []) = decide (a = []) := by unfold beq; exact beqs_cells a []
  have p : ∀ c, plain (.lst (cellsD c)) = true ∧ depth (.lst (cellsD c)) ≤ 64 := fun c => by unfold plain depth; rw [(plain_cs c).1, (plain_cs c).2]; exact ⟨rfl, by decide⟩
  have p0 : plain (.lst []) = true ∧ depth (.lst []) ≤ 64 := ⟨rfl, by decide⟩
  rw [e]
  simp [(p a).1, (p a).2, p0.1, p0.2]
theorem nat_eq {a b : Nat} : decide ((a : Int) = (b : Int)) = decide (a = b) := decide_eq_decide.mpr (by omega)
section
variable {T : Tab}
/-! ### wishes -/
def partB (x : D) : Bool := match x with
  | .str s => (s.all fun c => decide (c ∈ abc)) && risS s
  | _ => false
def φ_is_part : FSp := fun ds S Q E => match ds with
  | [x] => Ak S x ∧ szOk x ∧ Q (.bl (partB x)) S
  | _ => False
theorem e_is_part {x : D} {S : Sto} {Q : QV} {E : QX} : φ_is_part [x] S Q E = (Ak S x ∧ szOk x ∧ Q (.bl (partB x)) S) := rfl -- phi
theorem ok_is_part (f0 : T.Fn "are_colours" φ_are_colours) (f1 : T.Fn "is_rising" φ_is_rising) : Ok T n_is_part b_is_part φ_is_part := by
  intro ds S Q E hφ
  match ds, hφ with
  | [x], ⟨hk, hs, q⟩ =>
    simp_all_arith [b_is_part, n_is_part, x_call f0, x_call f1, e_are_colours]
    refine ⟨hk, hs, ?_⟩
    cases x with
    | str s =>
      cases hc : coloursB (.str s) with
      | false =>
        simp only [partB, coloursB] at q hc
        rw [hc] at q
        exact ⟨S, Sub.refl S, q⟩
      | true =>
        simp only [partB, coloursB] at q hc
        rw [hc] at q
        exact ⟨hs, S, Sub.refl S, q⟩
    | _ => exact ⟨S, Sub.refl S, q⟩
def wishB (x : D) (n : Nat) : Bool := match x with
  | .tup xs => decide (xs.length = n) && xs.all partB
  | _ => false
def wishAk (S : Sto) : D → Prop
  | .tup xs => ∀ d ∈ xs, Ak S d ∧ szOk d
  | _ => True
def φ_is_wish : FSp := fun ds S Q E => match ds with
  | [x, y] => Ak S x ∧ (Ak S y ∧ szOk y ∧ wishAk S y) ∧ (if isO S "Board" x = true then ∃ h w bs, x = brd h w bs ∧ BOk h w bs ∧ Q (.bl (wishB y (h * w))) S else E ⟨"NoBoard", ["board"], [x]⟩ S)
  | _ => False
theorem e_is_wish {x : D} {y : D} {S : Sto} {Q : QV} {E : QX} : φ_is_wish [x, y] S Q E = (Ak S x ∧ (Ak S y ∧ szOk y ∧ wishAk S y) ∧ (if isO S "Board" x = true then ∃ h w bs, x = brd h w bs ∧ BOk h w bs ∧ Q (.bl (wishB y (h * w))) S else E ⟨"NoBoard", ["board"], [x]⟩ S)) := rfl -- phi
theorem ok_is_wish (f0 : T.Fn "check_board" φ_check_board) (f1 : T.Fn "is_part" φ_is_part) (f2 : T.Fn "how_many" φ_how_many) : Ok T n_is_wish b_is_wish φ_is_wish := by
  intro ds S Q E hφ
  match ds, hφ with
  | [x, y], ⟨hkx, ⟨hk, hs, hw⟩, q⟩ =>
    simp_all_arith [b_is_wish, n_is_wish, x_call f0, e_check_board]
    refine ⟨hkx, ?_⟩
    by_cases hbb : isO S "Board" x = true
    rotate_left
    · rw [if_neg hbb] at q ⊢
      exact ⟨S, Sub.refl S, q⟩
    rw [if_pos hbb] at q ⊢
    obtain ⟨h, w, bs, rfl, k, q⟩ := q
    simp_all_arith [c_is_wish_0, x_call f1, x_call f2, e_how_many]
    refine ⟨hk, ?_⟩
    cases y with
    | tup xs =>
      simp_all_arith [wFn]
      refine ⟨h, w, bs, rfl, k, ?_⟩
      rw [decide_eq_decide.mpr (Int.ofNat_inj (m := xs.length) (n := h * w))]
      by_cases hl : xs.length = h * w
      · rw [decide_eq_true hl]
        simp only [wishB, decide_eq_true hl, Bool.true_and] at q
        refine wLc_pure (fun d => .bl (partB d)) (fun _ => true) trivial (fun d hd k1 k0 hk1 hk0 => ?_) (by simpa using (show xs.length ≤ lim from hs)) ?_
        · simp_all_arith [x_call f1, e_is_part]
          exact ⟨(hw d hd).1, (hw d hd).2, hk1 rfl⟩
        · rw [filter_all, List.nil_append]
          exact b_allM xs partB ⟨S, Sub.refl S, q⟩
      · rw [decide_eq_false hl]
        simp only [wishB, decide_eq_false hl, Bool.false_and] at q
        exact ⟨S, Sub.refl S, q⟩
    | _ => exact ⟨S, Sub.refl S, q⟩
/-- a wish of n cells -/
structure WOk (n : Nat) (ws : List (List Nat)) : Prop where
  len : ws.length = n
  ok : ∀ p ∈ ws, letters p ∧ p.Pairwise (· < ·)
def wishD (ws : List (List Nat)) : D := .tup (ws.map .str)
theorem abc_lt {c : Nat} (h : c ∈ abc) : 97 ≤ c ∧ c < 123 := by
  simp only [abc, List.mem_cons, List.not_mem_nil, or_false] at h
  omega
theorem part_len {p : List Nat} (hl : letters p) (hr : p.Pairwise (· < ·)) : p.length ≤ 26 := by
  have := bounded_rise (n := 123) (lo := 97) (fun c hc => abc_lt (hl c hc)) hr
  omega
theorem ris_back {s : List Nat} (h : risS s = true) : s.Pairwise (· < ·) := by
  unfold risS at h
  induction s with
  | nil => exact List.Pairwise.nil
  | cons a r ih =>
    cases r with
    | nil => exact List.pairwise_singleton _ _
    | cons b r =>
      simp only [List.drop_succ_cons, List.drop_zero, List.zip_cons_cons, List.all_cons, Bool.and_eq_true, decide_eq_true_eq] at h ih
      have i2 := ih h.2
      rw [List.pairwise_cons]
      refine ⟨fun c hc => ?_, i2⟩
      rcases List.mem_cons.mp hc with rfl | hc
      · exact h.1
      · exact Nat.lt_trans h.1 ((List.pairwise_cons.mp i2).1 c hc)
/-! ### a board's bands -/
end
--lvl3
local macro_rules | `(tactic| simp_all_arith [$xs,*]) => `(tactic| ((try dsimp only [x_loc, x_const, x_glob, x_bin, x_cmp, x_cmp2, x_bool, x_not, x_ite, x_bi, x_meth, x_attr, x_sub, x_sl, x_tup, x_lst, x_lc, x_sset, x_repl, x_dct, x_rngT, sp_tup, rv_tup, rv_lst, e_nil, e_cons, x_cat, x_xattr, x_isx, t_expr, t_ret, t_retN, t_pass, t_brk, t_cont, t_asg, t_par, t_ife, t_for, t_bad, t_tri, x_oeq, x_rpr, f_nil, f_cons, lh_tupS, lh_name, x_rngL, t_par3, rS_nil, rS_cons, rE_nil, rE_cons, mkV, wFn, $xs,*]); (try simp only [lim_0, lim_n1, lim_n2, lim_n3, lim_n4, lim_n5, lim_n6, lim_n7, lim_n8, lim_n9, lim_n10, lim_n11, lim_n12, lim_n13, lim_n14, lim_n15, lim_n16, lim_n17, lim_n18, lim_n19, lim_n20, lim_n21, lim_n22, lim_n23, lim_n24, lim_n25, lim_n26, lim_n27, lim_n28, lim_n29, lim_n30, sb_tup, sb_lst, sb_lsk, lh_tup, lh_lst, lh_name, it_str, it_tup, it_lst, Nat.reduceLeDiff, wFn, wSs, t_expr, t_ret, t_retN, t_pass, t_brk, t_cont, t_asg, t_par, t_ife, t_for, x_cat, x_xattr, x_rngL, x_oeq, x_rpr, f_nil, f_cons, lh_tupS, sp_tup, c_leS, t_par3, o_shlI, o_shrI, o_andI, b_boolI, b_boolB, at_0, at_1, at_2, at_3, x_loc, x_const, x_glob, x_bin, x_neg, x_cmp, x_cmp2, x_bool, x_not, x_ite, x_bi, x_meth, x_attr, x_sub, x_sl, x_tup, x_lst, x_lc, x_sset, x_repl, x_dct, x_dc, x_rngT, rv_tup, rv_lst, x_isiS, x_isiI, x_isiB, x_isiT, x_isiL, x_isiD, mkV, wB, wEs, wO, wTo, wI, wPs, wLs, wG, wGs, lhsLen, esLen, pick, tgSlots, tgsSlots, wipeD, List.map_cons, List.map_nil, List.append_nil, List.nil_append, List.cons_append, List.length_cons, List.length_nil, Nat.reduceAdd, Nat.reduceSub, List.replicate, List.set_cons_zero, List.set_cons_succ, List.set_nil, List.getElem?_cons_zero, List.getElem?_cons_succ, Option.some.injEq, exists_eq_left', exists_eq_left, exists_eq_right, true_and, and_true, if_true, if_false, Bool.false_eq_true, reduceIte, List.getD_cons_zero, List.getD_cons_succ, tru_bl, tru_int, tru_non, D.bl.injEq, D.int.injEq, o_addI, o_subI, o_mulI, o_divI, o_modI, o_powI, o_addS, o_addL, o_addT, c_ltI, c_leI, c_gtI, c_geI, c_ltS, c_eqI, c_neI, c_eqS, c_neS, b_lenS, b_lenT, b_lenL, b_lenK, b_absI, b_maxI, b_minI, b_intI, b_intB, b_tupS, b_tupL, b_lstS, b_dvm, i_str, l_str, l_tup, l_lst, l_lsk, n_frz, n_obj, r_one, r_two, ak_non, ak_bl, ak_int, ak_str, ak_tup, ak_lst, ak_dct, kS_non, kS_bl, kS_int, kS_str, kS_tup, kS_lst, kS_dct, kS_ins, kS_obj, kI_non, kI_bl, kI_int, kI_str, kI_tup, kI_lst, kI_dct, kI_ins, kI_obj, kB_non, kB_bl, kB_int, kB_str, kB_tup, kB_lst, kB_dct, kB_ins, kB_obj, kT_non, kT_bl, kT_int, kT_str, kT_tup, kT_lst, kT_dct, kT_ins, kT_obj, kL_non, kD_non, kL_bl, kD_bl, kL_int, kD_int, kL_str, kD_str, kL_tup, kD_tup, kL_lst, kD_lst, kL_dct, kD_dct, kL_ins, kD_ins, c_inS, c_niS, c_inT, c_niT, c_inL, c_niL, c_is, c_isn, c_isB, i_dct, nn_non, nn_int, nn_str, nn_tup, nn_lst, b_tupT, b_rpr, decide_true, decide_false, Bool.not_true, Bool.not_false, Bool.and_true, Bool.true_and, Bool.and_false, Bool.false_and, any_cells, flat_cells, flat_int, flat_str, eq_self, c_eqCT, c_neCT, c_neCL, c_eqCL, nat_eq, $xs,*])))
/-! P9: peeling as the package does it; least cores. -/
local macro_rules | `(tactic| simp_all_arith [$xs,*]) => `(tactic| ((try dsimp only [x_loc, x_const, x_glob, x_bin, x_cmp, x_cmp2, x_bool, x_not, x_ite, x_bi, x_meth, x_attr, x_sub, x_sl, x_tup, x_lst, x_lc, x_sset, x_repl, x_dct, x_rngT, sp_tup, rv_tup, rv_lst, e_nil, e_cons, x_cat, x_xattr, x_isx, t_expr, t_ret, t_retN, t_pass, t_brk, t_cont, t_asg, t_par, t_ife, t_for, t_bad, t_tri, x_oeq, x_rpr, f_nil, f_cons, lh_tupS, lh_name, x_rngL, t_par3, rS_nil, rS_cons, rE_nil, rE_cons, mkV, wFn, $xs,*]); (try simp only [lim_0, lim_n1, lim_n2, lim_n3, lim_n4, lim_n5, lim_n6, lim_n7, lim_n8, lim_n9, lim_n10, lim_n11, lim_n12, lim_n13, lim_n14, lim_n15, lim_n16, lim_n17, lim_n18, lim_n19, lim_n20, lim_n21, lim_n22, lim_n23, lim_n24, lim_n25, lim_n26, lim_n27, lim_n28, lim_n29, lim_n30, sb_tup, sb_lst, sb_lsk, lh_tup, lh_lst, lh_name, it_str, it_tup, it_lst, Nat.reduceLeDiff, wFn, wSs, t_expr, t_ret, t_retN, t_pass, t_brk, t_cont, t_asg, t_par, t_ife, t_for, x_cat, x_xattr, x_rngL, x_oeq, x_rpr, f_nil, f_cons, lh_tupS, sp_tup, c_leS, t_par3, o_shlI, o_shrI, o_andI, b_boolI, b_boolB, at_0, at_1, at_2, at_3, x_loc, x_const, x_glob, x_bin, x_neg, x_cmp, x_cmp2, x_bool, x_not, x_ite, x_bi, x_meth, x_attr, x_sub, x_sl, x_tup, x_lst, x_lc, x_sset, x_repl, x_dct, x_dc, x_rngT, rv_tup, rv_lst, x_isiS, x_isiI, x_isiB, x_isiT, x_isiL, x_isiD, mkV, wB, wEs, wO, wTo, wI, wPs, wLs, wG, wGs, lhsLen, esLen, pick, tgSlots, tgsSlots, wipeD, List.map_cons, List.map_nil, List.append_nil, List.nil_append, List.cons_append, List.length_cons, List.length_nil, Nat.reduceAdd, Nat.reduceSub, List.replicate, List.set_cons_zero, List.set_cons_succ, List.set_nil, List.getElem?_cons_zero, List.getElem?_cons_succ, Option.some.injEq, exists_eq_left', exists_eq_left, exists_eq_right, true_and, and_true, if_true, if_false, Bool.false_eq_true, reduceIte, List.getD_cons_zero, List.getD_cons_succ, tru_bl, tru_int, tru_non, D.bl.injEq, D.int.injEq, o_addI, o_subI, o_mulI, o_divI, o_modI, o_powI, o_addS, o_addL, o_addT, c_ltI, c_leI, c_gtI, c_geI, c_ltS, c_eqI, c_neI, c_eqS, c_neS, b_lenS, b_lenT, b_lenL, b_lenK, b_absI, b_maxI, b_minI, b_intI, b_intB, b_tupS, b_tupL, b_lstS, b_dvm, i_str, l_str, l_tup, l_lst, l_lsk, n_frz, n_obj, r_one, r_two, ak_non, ak_bl, ak_int, ak_str, ak_tup, ak_lst, ak_dct, kS_non, kS_bl, kS_int, kS_str, kS_tup, kS_lst, kS_dct, kS_ins, kS_obj, kI_non, kI_bl, kI_int, kI_str, kI_tup, kI_lst, kI_dct, kI_ins, kI_obj, kB_non, kB_bl, kB_int, kB_str, kB_tup, kB_lst, kB_dct, kB_ins, kB_obj, kT_non, kT_bl, kT_int, kT_str, kT_tup, kT_lst, kT_dct, kT_ins, kT_obj, kL_non, kD_non, kL_bl, kD_bl, kL_int, kD_int, kL_str, kD_str, kL_tup, kD_tup, kL_lst, kD_lst, kL_dct, kD_dct, kL_ins, kD_ins, c_inS, c_niS, c_inT, c_niT, c_inL, c_niL, c_is, c_isn, c_isB, i_dct, nn_non, nn_int, nn_str, nn_tup, nn_lst, b_tupT, b_rpr, decide_true, decide_false, Bool.not_true, Bool.not_false, Bool.and_true, Bool.true_and, Bool.and_false, Bool.false_and, $xs,*])))
/-! H5: a scene that is drawn. -/
section
variable {T : Tab} {f0 f1 f2 f3 : Str}
mutual
theorem beq_refl : ∀ d : D, plain d = true → beq d d = true
  | .non, _ => by unfold beq; rfl
  | .bl b, _ => by unfold beq; simp
  | .int i, _ => by unfold beq; simp
  | .str s, _ => by unfold beq; simp
  | .tup xs, h => by unfold plain at h; unfold beq; exact beqs_refl xs h
  | .lst xs, h => by unfold plain at h; unfold beq; exact beqs_refl xs h
  | .lsk _, h => by unfold plain at h; cases h
  | .obj _, h => by unfold plain at h; cases h
  | .ty _, h => by unfold plain at h; cases h
  | .gl _, h => by unfold plain at h; cases h
  | .ins _ _ _, h => by unfold plain at h; cases h
  | .dct _ _, h => by unfold plain at h; cases h
theorem beqs_refl : ∀ ds : List D, plains ds = true → beqs ds ds = true
  | [], _ => by unfold beqs; rfl
  | d :: ds, h => by
    unfold plains at h
    rw [Bool.and_eq_true] at h
    unfold beqs
    rw [beq_refl d h.1, beqs_refl ds h.2]; rfl
end
def φ_law : FSp := fun ds S Q E => match ds with
  | [x] => ∃ ns : List Int, x = .lsk (ns.map .int) ∧ ns.length ≤ 63 ∧ ∀ S', Q (.bl true) S'
  | _ => False
end
--lvl3
local macro_rules | `(tactic| simp_all_arith [$xs,*]) => `(tactic| ((try dsimp only [x_loc, x_const, x_glob, x_bin, x_cmp, x_cmp2, x_bool, x_not, x_ite, x_bi, x_meth, x_attr, x_sub, x_sl, x_tup, x_lst, x_lc, x_sset, x_repl, x_dct, x_rngT, sp_tup, rv_tup, rv_lst, e_nil, e_cons, x_cat, x_xattr, x_isx, t_expr, t_ret, t_retN, t_pass, t_brk, t_cont, t_asg, t_par, t_ife, t_for, t_bad, t_tri, x_oeq, x_rpr, f_nil, f_cons, lh_tupS, lh_name, x_rngL, t_par3, rS_nil, rS_cons, rE_nil, rE_cons, mkV, wFn, $xs,*]); (try simp only [lim_0, lim_n1, lim_n2, lim_n3, lim_n4, lim_n5, lim_n6, lim_n7, lim_n8, lim_n9, lim_n10, lim_n11, lim_n12, lim_n13, lim_n14, lim_n15, lim_n16, lim_n17, lim_n18, lim_n19, lim_n20, lim_n21, lim_n22, lim_n23, lim_n24, lim_n25, lim_n26, lim_n27, lim_n28, lim_n29, lim_n30, sb_tup, sb_lst, sb_lsk, lh_tup, lh_lst, lh_name, it_str, it_tup, it_lst, Nat.reduceLeDiff, wFn, wSs, t_expr, t_ret, t_retN, t_pass, t_brk, t_cont, t_asg, t_par, t_ife, t_for, x_cat, x_xattr, x_rngL, x_oeq, x_rpr, f_nil, f_cons, lh_tupS, sp_tup, c_leS, t_par3, o_shlI, o_shrI, o_andI, b_boolI, b_boolB, at_0, at_1, at_2, at_3, x_loc, x_const, x_glob, x_bin, x_neg, x_cmp, x_cmp2, x_bool, x_not, x_ite, x_bi, x_meth, x_attr, x_sub, x_sl, x_tup, x_lst, x_lc, x_sset, x_repl, x_dct, x_dc, x_rngT, rv_tup, rv_lst, x_isiS, x_isiI, x_isiB, x_isiT, x_isiL, x_isiD, mkV, wB, wEs, wO, wTo, wI, wPs, wLs, wG, wGs, lhsLen, esLen, pick, tgSlots, tgsSlots, wipeD, List.map_cons, List.map_nil, List.append_nil, List.nil_append, List.cons_append, List.length_cons, List.length_nil, Nat.reduceAdd, Nat.reduceSub, List.replicate, List.set_cons_zero, List.set_cons_succ, List.set_nil, List.getElem?_cons_zero, List.getElem?_cons_succ, Option.some.injEq, exists_eq_left', exists_eq_left, exists_eq_right, true_and, and_true, if_true, if_false, Bool.false_eq_true, reduceIte, List.getD_cons_zero, List.getD_cons_succ, tru_bl, tru_int, tru_non, D.bl.injEq, D.int.injEq, o_addI, o_subI, o_mulI, o_divI, o_modI, o_powI, o_addS, o_addL, o_addT, c_ltI, c_leI, c_gtI, c_geI, c_ltS, c_eqI, c_neI, c_eqS, c_neS, b_lenS, b_lenT, b_lenL, b_lenK, b_absI, b_maxI, b_minI, b_intI, b_intB, b_tupS, b_tupL, b_lstS, b_dvm, i_str, l_str, l_tup, l_lst, l_lsk, n_frz, n_obj, r_one, r_two, ak_non, ak_bl, ak_int, ak_str, ak_tup, ak_lst, ak_dct, kS_non, kS_bl, kS_int, kS_str, kS_tup, kS_lst, kS_dct, kS_ins, kS_obj, kI_non, kI_bl, kI_int, kI_str, kI_tup, kI_lst, kI_dct, kI_ins, kI_obj, kB_non, kB_bl, kB_int, kB_str, kB_tup, kB_lst, kB_dct, kB_ins, kB_obj, kT_non, kT_bl, kT_int, kT_str, kT_tup, kT_lst, kT_dct, kT_ins, kT_obj, kL_non, kD_non, kL_bl, kD_bl, kL_int, kD_int, kL_str, kD_str, kL_tup, kD_tup, kL_lst, kD_lst, kL_dct, kD_dct, kL_ins, kD_ins, c_inS, c_niS, c_inT, c_niT, c_inL, c_niL, c_is, c_isn, c_isB, i_dct, nn_non, nn_int, nn_str, nn_tup, nn_lst, b_tupT, b_rpr, decide_true, decide_false, Bool.not_true, Bool.not_false, Bool.and_true, Bool.true_and, Bool.and_false, Bool.false_and, any_cells, flat_cells, flat_int, flat_str, eq_self, c_eqCT, c_neCT, c_neCL, c_eqCL, nat_eq, $xs,*])))
/-! H7: boards, pictures and wishes that are drawn; a law's own peeling. -/
/-! TQ: cores and histories, in plain words. -/
/-! ### all rows of strokes -/
/-! ### all parts of a row -/
--lvl3
/-! H8: a scene with a wish; a law's own cores and rows of strokes. -/
--lvl3
/-! PQ: == of boards by their own __eq__ (the same as in K34d). -/
--lvl3
/-! K09b: amiss and wish_of. -/
section
variable {T : Tab} {f0 f1 f2 f3 f4 f5 f6 f7 f8 : Str}
theorem abc_rise : abc.Pairwise (· < ·) := by decide
end
--lvl3
/-! K09c: things that are none. -/
/-- it can be shown -/
def shB (x : D) : Prop := rprB x = true ∧ (rprD x).length ≤ lim
theorem shB_of {d : D} (hs : shw d = true) (hd : depth d ≤ 60) (hz : rsz d ≤ lim) : shB d := by
  obtain ⟨a, b⟩ := shown_le d hs
  have hp := shw_plain d hs
  have e : pyR d = toPy d := by unfold pyR; rw [if_pos hp]
  refine ⟨?_, ?_⟩
  · unfold rprB
    rw [e, hp, a, depth_py, decide_eq_true (by omega)]
    rfl
  · unfold rprD
    rw [e]
    have : (toPy d).shown.cps.toList.length = (toPy d).shown.length := by
      show ((toPy d).shown.cps.toList).length = (toPy d).shown.cps.size
      simp
    omega
theorem shB_dct : shB (.dct [] []) := by
  have h1 : rprB (.dct [] []) = true := by kernel_rfl
  have h2 : (rprD (.dct [] [])).length = 2 := by kernel_rfl
  exact ⟨h1, by rw [h2]; unfold lim; omega⟩
theorem shB_str {s : List Nat} (h : ∀ c ∈ s, sgnOk c = true) (hl : s.length ≤ 1000) : shB (.str s) := by
  refine shB_of ?_ (by unfold depth; omega) (by unfold rsz lim; omega)
  unfold shw
  exact List.all_eq_true.mpr h
structure OddH (x : D) : Prop where
  ak : ∀ S, Ak S x
  no : ∀ S, isO S "Board" x = false
  sh : shB x
def housesL : List D := [.non, .bl true, .int 0, .str [], .tup [], .lst [], .dct [] [], .tup [.int 1, .int 1, .tup []]]
theorem housesL_ok : ∀ x ∈ housesL, OddH x := by
  intro x hx
  simp only [housesL, List.mem_cons, List.not_mem_nil, or_false] at hx
  rcases hx with rfl | rfl | rfl | rfl | rfl | rfl | rfl | rfl
  · exact ⟨fun _ => ak_non.mpr trivial, fun _ => rfl, shB_of rfl (by decide) (by decide)⟩
  · exact ⟨fun _ => ak_bl.mpr trivial, fun _ => rfl, shB_of rfl (by decide) (by decide)⟩
  · exact ⟨fun _ => ak_int.mpr trivial, fun _ => rfl, shB_of rfl (by decide) (by decide)⟩
  · exact ⟨fun _ => ak_str.mpr trivial, fun _ => rfl, shB_of rfl (by decide) (by decide)⟩
  · exact ⟨fun _ => ak_tup.mpr trivial, fun _ => rfl, shB_of rfl (by decide) (by decide)⟩
  · exact ⟨fun _ => ak_lst.mpr trivial, fun _ => rfl, shB_of rfl (by decide) (by decide)⟩
  · exact ⟨fun _ => ak_dct.mpr trivial, fun _ => rfl, shB_dct⟩
  · exact ⟨fun _ => ak_tup.mpr trivial, fun _ => rfl, shB_of rfl (by decide) (by decide)⟩
theorem sgn_let {s : List Nat} (h : letters s) : ∀ c ∈ s, sgnOk c = true := fun c hc => sgn_abc c (h c hc)
theorem cut_sub9 {α : Type} (p : List α) (lo hi : Option Int) : (∀ c ∈ cut p lo hi, c ∈ p) ∧ (cut p lo hi).length ≤ p.length := by
  unfold cut
  refine ⟨fun c hc => List.mem_of_mem_drop (List.mem_of_mem_take hc), ?_⟩
  rw [List.length_take, List.length_drop]
  omega
theorem wO_c {T : Tab} {ex : QE} {ρ : Sl} {S : Sto} {k : Int} {Q : Option Int → Sto → Prop} : wO T (.yes (.const (.int k))) ex ρ S Q = Q (some k) S := rfl
theorem wO_nc {T : Tab} {ex : QE} {ρ : Sl} {S : Sto} {k : Int} {Q : Option Int → Sto → Prop} : wO T (.yes (.neg (.const (.int k)))) ex ρ S Q = Q (some (-k)) S := rfl
theorem wO_no {T : Tab} {ex : QE} {ρ : Sl} {S : Sto} {Q : Option Int → Sto → Prop} : wO T .no ex ρ S Q = Q none S := rfl
/-- {} that stays as it is -/
theorem dct_e {S : Sto} {Q : QV} (q : Q (.dct [] []) S) (a : Addr) (ha : S a = none) : S.set a (.dct []) a = some (.dct []) ∧ (([] : List D).all fun d => (toKey d).isSome) = true ∧ ([] : List (Option Key)).Nodup ∧ newDc true a [] (S.set a (.dct [])) Q := by
  refine ⟨Sto.set_same, rfl, List.nodup_nil, ?_⟩
  unfold newDc
  rw [if_pos rfl, Sto.del_set ha]
  exact q
--lvl3
/-! K09d: sorts of errors. (printed by mk_sort1.py) -/
section
variable {T : Tab} {f0 f1 f2 f3 f4 f5 f6 f7 f8 : Str}
theorem sort1_NoBoard {ns : List Str} {vs : List D} {S : Sto} {Q : QV} {E : QX} (h : T.Xs "NoBoard" (rowX 14 1)) (q : Q (.str [98, 111, 97, 114, 100]) S) : wFn T n_sort1 b_sort1 [.exn "NoBoard" ns vs] S Q E := by
  have a_NoSize : T.xs "NoBoard" "NoSize" = some false := h ("NoSize", false) (by decide +kernel)
  have a_NoBands : T.xs "NoBoard" "NoBands" = some false := h ("NoBands", false) (by decide +kernel)
  have a_NoText : T.xs "NoBoard" "NoText" = some false := h ("NoText", false) (by decide +kernel)
  have a_NoPicture : T.xs "NoBoard" "NoPicture" = some false := h ("NoPicture", false) (by decide +kernel)
  have a_NoWish : T.xs "NoBoard" "NoWish" = some false := h ("NoWish", false) (by decide +kernel)
  have a_NoHistory : T.xs "NoBoard" "NoHistory" = some false := h ("NoHistory", false) (by decide +kernel)
  have a_NoNames : T.xs "NoBoard" "NoNames" = some false := h ("NoNames", false) (by decide +kernel)
  have a_NoRules : T.xs "NoBoard" "NoRules" = some false := h ("NoRules", false) (by decide +kernel)
  have a_NoHands : T.xs "NoBoard" "NoHands" = some false := h ("NoHands", false) (by decide +kernel)
  have a_NoTorn : T.xs "NoBoard" "NoTorn" = some false := h ("NoTorn", false) (by decide +kernel)
  have a_NoCells : T.xs "NoBoard" "NoCells" = some false := h ("NoCells", false) (by decide +kernel)
  have a_NoDeed : T.xs "NoBoard" "NoDeed" = some false := h ("NoDeed", false) (by decide +kernel)
  have a_NoCount : T.xs "NoBoard" "NoCount" = some false := h ("NoCount", false) (by decide +kernel)
  have a_NoRow : T.xs "NoBoard" "NoRow" = some false := h ("NoRow", false) (by decide +kernel)
  have a_NoBoard : T.xs "NoBoard" "NoBoard" = some true := h ("NoBoard", true) (by decide +kernel)
  have a_NoBand : T.xs "NoBoard" "NoBand" = some false := h ("NoBand", false) (by decide +kernel)
  have a_NoCell : T.xs "NoBoard" "NoCell" = some false := h ("NoCell", false) (by decide +kernel)
  have a_NoBack : T.xs "NoBoard" "NoBack" = some false := h ("NoBack", false) (by decide +kernel)
  have a_NoWay : T.xs "NoBoard" "NoWay" = some false := h ("NoWay", false) (by decide +kernel)
  have a_TooMany : T.xs "NoBoard" "TooMany" = some false := h ("TooMany", false) (by decide +kernel)
  have a_Full : T.xs "NoBoard" "Full" = some false := h ("Full", false) (by decide +kernel)
  have a_CoatError : T.xs "NoBoard" "CoatError" = some false := h ("CoatError", false) (by decide +kernel)
  have a_StandError : T.xs "NoBoard" "StandError" = some true := h ("StandError", true) (by decide +kernel)
  have a_RoomError : T.xs "NoBoard" "RoomError" = some false := h ("RoomError", false) (by decide +kernel)
  have a_ValueError : T.xs "NoBoard" "ValueError" = some false := h ("ValueError", false) (by decide +kernel)
  have a_LookupError : T.xs "NoBoard" "LookupError" = some true := h ("LookupError", true) (by decide +kernel)
  have a_ArithmeticError : T.xs "NoBoard" "ArithmeticError" = some false := h ("ArithmeticError", false) (by decide +kernel)
  simp_all_arith [b_sort1, n_sort1, x_isx]
  refine ⟨⟨_, _, a_NoSize⟩, _, _, _, _, rfl, a_NoSize, ⟨_, _, a_NoBands⟩, _, _, _, _, rfl, a_NoBands, ⟨_, _, a_NoText⟩, _, _, _, _, rfl, a_NoText, ⟨_, _, a_NoPicture⟩, _, _, _, _, rfl, a_NoPicture, ?_⟩
  intro p1 hp1
  simp_all_arith [c_sort1_11, x_isx]
  refine ⟨⟨_, _, a_NoWish⟩, _, _, _, _, rfl, a_NoWish, ⟨_, _, a_NoHistory⟩, _, _, _, _, rfl, a_NoHistory, ⟨_, _, a_NoNames⟩, _, _, _, _, rfl, a_NoNames, ⟨_, _, a_NoRules⟩, _, _, _, _, rfl, a_NoRules, ?_⟩
  simp_all_arith [seqL]
  rw [Sto.set_same]
  refine ⟨_, _, rfl, rfl, by decide, ?_⟩
  intro p2 hp2
  simp_all_arith [c_sort1_10, x_isx]
  refine ⟨⟨_, _, a_NoHands⟩, _, _, _, _, rfl, a_NoHands, ⟨_, _, a_NoTorn⟩, _, _, _, _, rfl, a_NoTorn, ⟨_, _, a_NoCells⟩, _, _, _, _, rfl, a_NoCells, ⟨_, _, a_NoDeed⟩, _, _, _, _, rfl, a_NoDeed, ?_⟩
  simp_all_arith [seqL]
  rw [Sto.set_same]
  refine ⟨_, _, rfl, rfl, by decide, ?_⟩
  intro p3 hp3
  simp_all_arith [c_sort1_9, x_isx]
  refine ⟨⟨_, _, a_NoCount⟩, _, _, _, _, rfl, a_NoCount, ⟨_, _, a_NoRow⟩, _, _, _, _, rfl, a_NoRow, ⟨_, _, a_NoBoard⟩, _, _, _, _, rfl, a_NoBoard, ⟨_, _, a_NoBand⟩, _, _, _, _, rfl, a_NoBand, ?_⟩
  simp_all_arith [seqL]
  rw [Sto.set_same]
  refine ⟨_, _, rfl, rfl, by decide, ?_⟩
  intro p4 hp4
  simp_all_arith [c_sort1_8, x_isx]
  refine ⟨⟨_, _, a_NoCell⟩, _, _, _, _, rfl, a_NoCell, ⟨_, _, a_NoBack⟩, _, _, _, _, rfl, a_NoBack, ⟨_, _, a_NoWay⟩, _, _, _, _, rfl, a_NoWay, ⟨_, _, a_TooMany⟩, _, _, _, _, rfl, a_TooMany, ?_⟩
  simp_all_arith [seqL]
  rw [Sto.set_same]
  refine ⟨_, _, rfl, rfl, by decide, ?_⟩
  intro p5 hp5
  simp_all_arith [c_sort1_7, x_isx]
  refine ⟨⟨_, Sto.set_same⟩, ⟨_, _, a_Full⟩, _, _, _, _, rfl, a_Full, ⟨_, Sto.set_same, by decide, ?_⟩⟩
  rw [Sto.set_set]
  simp_all_arith [c_sort1_6, x_isx]
  refine ⟨⟨_, _, a_CoatError⟩, _, _, _, _, rfl, a_CoatError, ⟨_, _, a_StandError⟩, _, _, _, _, rfl, a_StandError, ⟨_, _, a_RoomError⟩, _, _, _, _, rfl, a_RoomError, ?_⟩
  simp_all_arith [c_sort1_5, x_isx]
  refine ⟨⟨_, _, a_ValueError⟩, _, _, _, _, rfl, a_ValueError, ⟨_, _, a_LookupError⟩, _, _, _, _, rfl, a_LookupError, ⟨_, _, a_ArithmeticError⟩, _, _, _, _, rfl, a_ArithmeticError, ?_⟩
  have sb : Sub S (((((S.set p1 (.lst [.bl false, .bl false, .bl false, .bl false])).set p2 (.lst [.bl false, .bl false, .bl false, .bl false, .bl false, .bl false, .bl false, .bl false])).set p3 (.lst [.bl false, .bl false, .bl false, .bl false, .bl false, .bl false, .bl false, .bl false, .bl false, .bl false, .bl false, .bl false])).set p4 (.lst [.bl false, .bl false, .bl false, .bl false, .bl false, .bl false, .bl false, .bl false, .bl false, .bl false, .bl false, .bl false, .bl false, .bl false, .bl true, .bl false])).set p5 (.lst [.bl false, .bl false, .bl false, .bl false, .bl false, .bl false, .bl false, .bl false, .bl false, .bl false, .bl false, .bl false, .bl false, .bl false, .bl true, .bl false, .bl false, .bl false, .bl false, .bl false, .bl false])) := (Sub.set_new hp1).trans ((Sub.set_new hp2).trans ((Sub.set_new hp3).trans ((Sub.set_new hp4).trans (Sub.set_new hp5))))
  have e5 : (((((S.set p1 (.lst [.bl false, .bl false, .bl false, .bl false])).set p2 (.lst [.bl false, .bl false, .bl false, .bl false, .bl false, .bl false, .bl false, .bl false])).set p3 (.lst [.bl false, .bl false, .bl false, .bl false, .bl false, .bl false, .bl false, .bl false, .bl false, .bl false, .bl false, .bl false])).set p4 (.lst [.bl false, .bl false, .bl false, .bl false, .bl false, .bl false, .bl false, .bl false, .bl false, .bl false, .bl false, .bl false, .bl false, .bl false, .bl true, .bl false])).set p5 (.lst [.bl false, .bl false, .bl false, .bl false, .bl false, .bl false, .bl false, .bl false, .bl false, .bl false, .bl false, .bl false, .bl false, .bl false, .bl true, .bl false, .bl false, .bl false, .bl false, .bl false, .bl false])) p5 = some (.lst [.bl false, .bl false, .bl false, .bl false, .bl false, .bl false, .bl false, .bl false, .bl false, .bl false, .bl false, .bl false, .bl false, .bl false, .bl true, .bl false, .bl false, .bl false, .bl false, .bl false, .bl false]) := Sto.set_same
  generalize (((((S.set p1 (.lst [.bl false, .bl false, .bl false, .bl false])).set p2 (.lst [.bl false, .bl false, .bl false, .bl false, .bl false, .bl false, .bl false, .bl false])).set p3 (.lst [.bl false, .bl false, .bl false, .bl false, .bl false, .bl false, .bl false, .bl false, .bl false, .bl false, .bl false, .bl false])).set p4 (.lst [.bl false, .bl false, .bl false, .bl false, .bl false, .bl false, .bl false, .bl false, .bl false, .bl false, .bl false, .bl false, .bl false, .bl false, .bl true, .bl false])).set p5 (.lst [.bl false, .bl false, .bl false, .bl false, .bl false, .bl false, .bl false, .bl false, .bl false, .bl false, .bl false, .bl false, .bl false, .bl false, .bl true, .bl false, .bl false, .bl false, .bl false, .bl false, .bl false])) = S5 at sb e5 ⊢
  simp_all_arith [c_sort1_4, meT, meS, seqL, e5]
  refine ⟨.inr ⟨_, _, rfl, e5⟩, rfl, rfl, ?_⟩
  show cmpS .NotEq (.lst [.bl false, .bl true, .bl false]) (.lst [.bl false, .bl true, .bl false]) S5 _
  rw [c_ne, beq_refl _ rfl]
  refine ⟨⟨rfl, rfl, by decide, by decide⟩, _, rfl, ?_⟩
  simp_all_arith [wFn]
  simp_all_arith [c_sort1_3, meT, meS, seqL, e5]
  refine ⟨.inr ⟨_, _, rfl, e5⟩, rfl, rfl, rfl, ?_⟩
  have ei : List.findIdx (fun z => beq z (.bl true)) [.bl false, .bl false, .bl false, .bl false, .bl false, .bl false, .bl false, .bl false, .bl false, .bl false, .bl false, .bl false, .bl false, .bl false, .bl true, .bl false, .bl false, .bl false, .bl false, .bl false, .bl false] = 14 := rfl
  rw [ei, show ((14 : Nat) : Int) = 14 from rfl]
  simp_all_arith [c_sort1_2]
  refine ⟨by decide, ?_⟩
  have er : (List.map (fun k : Nat => D.int (0 + (k : Int))) (List.range (Int.toNat 3))) = [.int 0, .int 1, .int 2] := rfl
  rw [er]
  refine wLc_pure (fun d => .bl (beq d (.int 1))) (fun _ => true) trivial (fun d hd k1 k0 hk1 hk0 => ?_) (by decide) ?_
  · simp only [List.mem_cons, List.not_mem_nil, or_false] at hd
    rcases hd with rfl | rfl | rfl
    · simp_all_arith [wFn]
      exact hk1 rfl
    · simp_all_arith [wFn]
      exact hk1 rfl
    · simp_all_arith [wFn]
      exact hk1 rfl
  · rw [filter_all, List.nil_append]
    show cmpS .NotEq (.lst [.bl false, .bl true, .bl false]) (.lst [.bl false, .bl true, .bl false]) S5 _
    rw [c_ne, beq_refl _ rfl]
    refine ⟨⟨rfl, rfl, by decide, by decide⟩, _, rfl, ?_⟩
    simp_all_arith [wFn]
    simp_all_arith [c_sort1_1]
    simp_all_arith [c_sort1_0]
    first | exact ⟨S, sb, q⟩ | exact ⟨_, rfl, S, sb, q⟩ | exact ⟨by decide, _, rfl, S, sb, q⟩
theorem sort1_NoPicture {ns : List Str} {vs : List D} {S : Sto} {Q : QV} {E : QX} (h : T.Xs "NoPicture" (rowX 3 0)) (q : Q (.str [112, 105, 99, 116, 117, 114, 101]) S) : wFn T n_sort1 b_sort1 [.exn "NoPicture" ns vs] S Q E := by
  have a_NoSize : T.xs "NoPicture" "NoSize" = some false := h ("NoSize", false) (by decide +kernel)
  have a_NoBands : T.xs "NoPicture" "NoBands" = some false := h ("NoBands", false) (by decide +kernel)
  have a_NoText : T.xs "NoPicture" "NoText" = some false := h ("NoText", false) (by decide +kernel)
  have a_NoPicture : T.xs "NoPicture" "NoPicture" = some true := h ("NoPicture", true) (by decide +kernel)
  have a_NoWish : T.xs "NoPicture" "NoWish" = some false := h ("NoWish", false) (by decide +kernel)
  have a_NoHistory : T.xs "NoPicture" "NoHistory" = some false := h ("NoHistory", false) (by decide +kernel)
  have a_NoNames : T.xs "NoPicture" "NoNames" = some false := h ("NoNames", false) (by decide +kernel)
  have a_NoRules : T.xs "NoPicture" "NoRules" = some false := h ("NoRules", false) (by decide +kernel)
  have a_NoHands : T.xs "NoPicture" "NoHands" = some false := h ("NoHands", false) (by decide +kernel)
  have a_NoTorn : T.xs "NoPicture" "NoTorn" = some false := h ("NoTorn", false) (by decide +kernel)
  have a_NoCells : T.xs "NoPicture" "NoCells" = some false := h ("NoCells", false) (by decide +kernel)
  have a_NoDeed : T.xs "NoPicture" "NoDeed" = some false := h ("NoDeed", false) (by decide +kernel)
  have a_NoCount : T.xs "NoPicture" "NoCount" = some false := h ("NoCount", false) (by decide +kernel)
  have a_NoRow : T.xs "NoPicture" "NoRow" = some false := h ("NoRow", false) (by decide +kernel)
  have a_NoBoard : T.xs "NoPicture" "NoBoard" = some false := h ("NoBoard", false) (by decide +kernel)
  have a_NoBand : T.xs "NoPicture" "NoBand" = some false := h ("NoBand", false) (by decide +kernel)
  have a_NoCell : T.xs "NoPicture" "NoCell" = some false := h ("NoCell", false) (by decide +kernel)
  have a_NoBack : T.xs "NoPicture" "NoBack" = some false := h ("NoBack", false) (by decide +kernel)
  have a_NoWay : T.xs "NoPicture" "NoWay" = some false := h ("NoWay", false) (by decide +kernel)
  have a_TooMany : T.xs "NoPicture" "TooMany" = some false := h ("TooMany", false) (by decide +kernel)
  have a_Full : T.xs "NoPicture" "Full" = some false := h ("Full", false) (by decide +kernel)
  have a_CoatError : T.xs "NoPicture" "CoatError" = some true := h ("CoatError", true) (by decide +kernel)
  have a_StandError : T.xs "NoPicture" "StandError" = some false := h ("StandError", false) (by decide +kernel)
  have a_RoomError : T.xs "NoPicture" "RoomError" = some false := h ("RoomError", false) (by decide +kernel)
  have a_ValueError : T.xs "NoPicture" "ValueError" = some true := h ("ValueError", true) (by decide +kernel)
  have a_LookupError : T.xs "NoPicture" "LookupError" = some false := h ("LookupError", false) (by decide +kernel)
  have a_ArithmeticError : T.xs "NoPicture" "ArithmeticError" = some false := h ("ArithmeticError", false) (by decide +kernel)
  simp_all_arith [b_sort1, n_sort1, x_isx]
  refine ⟨⟨_, _, a_NoSize⟩, _, _, _, _, rfl, a_NoSize, ⟨_, _, a_NoBands⟩, _, _, _, _, rfl, a_NoBands, ⟨_, _, a_NoText⟩, _, _, _, _, rfl, a_NoText, ⟨_, _, a_NoPicture⟩, _, _, _, _, rfl, a_NoPicture, ?_⟩
  intro p1 hp1
  simp_all_arith [c_sort1_11, x_isx]
  refine ⟨⟨_, _, a_NoWish⟩, _, _, _, _, rfl, a_NoWish, ⟨_, _, a_NoHistory⟩, _, _, _, _, rfl, a_NoHistory, ⟨_, _, a_NoNames⟩, _, _, _, _, rfl, a_NoNames, ⟨_, _, a_NoRules⟩, _, _, _, _, rfl, a_NoRules, ?_⟩
  simp_all_arith [seqL]
  rw [Sto.set_same]
  refine ⟨_, _, rfl, rfl, by decide, ?_⟩
  intro p2 hp2
  simp_all_arith [c_sort1_10, x_isx]
  refine ⟨⟨_, _, a_NoHands⟩, _, _, _, _, rfl, a_NoHands, ⟨_, _, a_NoTorn⟩, _, _, _, _, rfl, a_NoTorn, ⟨_, _, a_NoCells⟩, _, _, _, _, rfl, a_NoCells, ⟨_, _, a_NoDeed⟩, _, _, _, _, rfl, a_NoDeed, ?_⟩
  simp_all_arith [seqL]
  rw [Sto.set_same]
  refine ⟨_, _, rfl, rfl, by decide, ?_⟩
  intro p3 hp3
  simp_all_arith [c_sort1_9, x_isx]
  refine ⟨⟨_, _, a_NoCount⟩, _, _, _, _, rfl, a_NoCount, ⟨_, _, a_NoRow⟩, _, _, _, _, rfl, a_NoRow, ⟨_, _, a_NoBoard⟩, _, _, _, _, rfl, a_NoBoard, ⟨_, _, a_NoBand⟩, _, _, _, _, rfl, a_NoBand, ?_⟩
  simp_all_arith [seqL]
  rw [Sto.set_same]
  refine ⟨_, _, rfl, rfl, by decide, ?_⟩
  intro p4 hp4
  simp_all_arith [c_sort1_8, x_isx]
  refine ⟨⟨_, _, a_NoCell⟩, _, _, _, _, rfl, a_NoCell, ⟨_, _, a_NoBack⟩, _, _, _, _, rfl, a_NoBack, ⟨_, _, a_NoWay⟩, _, _, _, _, rfl, a_NoWay, ⟨_, _, a_TooMany⟩, _, _, _, _, rfl, a_TooMany, ?_⟩
  simp_all_arith [seqL]
  rw [Sto.set_same]
  refine ⟨_, _, rfl, rfl, by decide, ?_⟩
  intro p5 hp5
  simp_all_arith [c_sort1_7, x_isx]
  refine ⟨⟨_, Sto.set_same⟩, ⟨_, _, a_Full⟩, _, _, _, _, rfl, a_Full, ⟨_, Sto.set_same, by decide, ?_⟩⟩
  rw [Sto.set_set]
  simp_all_arith [c_sort1_6, x_isx]
  refine ⟨⟨_, _, a_CoatError⟩, _, _, _, _, rfl, a_CoatError, ⟨_, _, a_StandError⟩, _, _, _, _, rfl, a_StandError, ⟨_, _, a_RoomError⟩, _, _, _, _, rfl, a_RoomError, ?_⟩
  simp_all_arith [c_sort1_5, x_isx]
  refine ⟨⟨_, _, a_ValueError⟩, _, _, _, _, rfl, a_ValueError, ⟨_, _, a_LookupError⟩, _, _, _, _, rfl, a_LookupError, ⟨_, _, a_ArithmeticError⟩, _, _, _, _, rfl, a_ArithmeticError, ?_⟩
  have sb : Sub S (((((S.set p1 (.lst [.bl false, .bl false, .bl false, .bl true])).set p2 (.lst [.bl false, .bl false, .bl false, .bl true, .bl false, .bl false, .bl false, .bl false])).set p3 (.lst [.bl false, .bl false, .bl false, .bl true, .bl false, .bl false, .bl false, .bl false, .bl false, .bl false, .bl false, .bl false])).set p4 (.lst [.bl false, .bl false, .bl false, .bl true, .bl false, .bl false, .bl false, .bl false, .bl false, .bl false, .bl false, .bl false, .bl false, .bl false, .bl false, .bl false])).set p5 (.lst [.bl false, .bl false, .bl false, .bl true, .bl false, .bl false, .bl false, .bl false, .bl false, .bl false, .bl false, .bl false, .bl false, .bl false, .bl false, .bl false, .bl false, .bl false, .bl false, .bl false, .bl false])) := (Sub.set_new hp1).trans ((Sub.set_new hp2).trans ((Sub.set_new hp3).trans ((Sub.set_new hp4).trans (Sub.set_new hp5))))
  have e5 : (((((S.set p1 (.lst [.bl false, .bl false, .bl false, .bl true])).set p2 (.lst [.bl false, .bl false, .bl false, .bl true, .bl false, .bl false, .bl false, .bl false])).set p3 (.lst [.bl false, .bl false, .bl false, .bl true, .bl false, .bl false, .bl false, .bl false, .bl false, .bl false, .bl false, .bl false])).set p4 (.lst [.bl false, .bl false, .bl false, .bl true, .bl false, .bl false, .bl false, .bl false, .bl false, .bl false, .bl false, .bl false, .bl false, .bl false, .bl false, .bl false])).set p5 (.lst [.bl false, .bl false, .bl false, .bl true, .bl false, .bl false, .bl false, .bl false, .bl false, .bl false, .bl false, .bl false, .bl false, .bl false, .bl false, .bl false, .bl false, .bl false, .bl false, .bl false, .bl false])) p5 = some (.lst [.bl false, .bl false, .bl false, .bl true, .bl false, .bl false, .bl false, .bl false, .bl false, .bl false, .bl false, .bl false, .bl false, .bl false, .bl false, .bl false, .bl false, .bl false, .bl false, .bl false, .bl false]) := Sto.set_same
  generalize (((((S.set p1 (.lst [.bl false, .bl false, .bl false, .bl true])).set p2 (.lst [.bl false, .bl false, .bl false, .bl true, .bl false, .bl false, .bl false, .bl false])).set p3 (.lst [.bl false, .bl false, .bl false, .bl true, .bl false, .bl false, .bl false, .bl false, .bl false, .bl false, .bl false, .bl false])).set p4 (.lst [.bl false, .bl false, .bl false, .bl true, .bl false, .bl false, .bl false, .bl false, .bl false, .bl false, .bl false, .bl false, .bl false, .bl false, .bl false, .bl false])).set p5 (.lst [.bl false, .bl false, .bl false, .bl true, .bl false, .bl false, .bl false, .bl false, .bl false, .bl false, .bl false, .bl false, .bl false, .bl false, .bl false, .bl false, .bl false, .bl false, .bl false, .bl false, .bl false])) = S5 at sb e5 ⊢
  simp_all_arith [c_sort1_4, meT, meS, seqL, e5]
  refine ⟨.inr ⟨_, _, rfl, e5⟩, rfl, rfl, ?_⟩
  show cmpS .NotEq (.lst [.bl true, .bl false, .bl false]) (.lst [.bl true, .bl false, .bl false]) S5 _
  rw [c_ne, beq_refl _ rfl]
  refine ⟨⟨rfl, rfl, by decide, by decide⟩, _, rfl, ?_⟩
  simp_all_arith [wFn]
  simp_all_arith [c_sort1_3, meT, meS, seqL, e5]
  refine ⟨.inr ⟨_, _, rfl, e5⟩, rfl, rfl, rfl, ?_⟩
  have ei : List.findIdx (fun z => beq z (.bl true)) [.bl false, .bl false, .bl false, .bl true, .bl false, .bl false, .bl false, .bl false, .bl false, .bl false, .bl false, .bl false, .bl false, .bl false, .bl false, .bl false, .bl false, .bl false, .bl false, .bl false, .bl false] = 3 := rfl
  rw [ei, show ((3 : Nat) : Int) = 3 from rfl]
  simp_all_arith [c_sort1_2]
  refine ⟨by decide, ?_⟩
  have er : (List.map (fun k : Nat => D.int (0 + (k : Int))) (List.range (Int.toNat 3))) = [.int 0, .int 1, .int 2] := rfl
  rw [er]
  refine wLc_pure (fun d => .bl (beq d (.int 0))) (fun _ => true) trivial (fun d hd k1 k0 hk1 hk0 => ?_) (by decide) ?_
  · simp only [List.mem_cons, List.not_mem_nil, or_false] at hd
    rcases hd with rfl | rfl | rfl
    · simp_all_arith [wFn]
      exact hk1 rfl
    · simp_all_arith [wFn]
      exact hk1 rfl
    · simp_all_arith [wFn]
      exact hk1 rfl
  · rw [filter_all, List.nil_append]
    show cmpS .NotEq (.lst [.bl true, .bl false, .bl false]) (.lst [.bl true, .bl false, .bl false]) S5 _
    rw [c_ne, beq_refl _ rfl]
    refine ⟨⟨rfl, rfl, by decide, by decide⟩, _, rfl, ?_⟩
    simp_all_arith [wFn]
    simp_all_arith [c_sort1_1]
    simp_all_arith [c_sort1_0]
    first | exact ⟨S, sb, q⟩ | exact ⟨_, rfl, S, sb, q⟩ | exact ⟨by decide, _, rfl, S, sb, q⟩
theorem sort1_NoWish {ns : List Str} {vs : List D} {S : Sto} {Q : QV} {E : QX} (h : T.Xs "NoWish" (rowX 4 0)) (q : Q (.str [119, 105, 115, 104]) S) : wFn T n_sort1 b_sort1 [.exn "NoWish" ns vs] S Q E := by
  have a_NoSize : T.xs "NoWish" "NoSize" = some false := h ("NoSize", false) (by decide +kernel)
  have a_NoBands : T.xs "NoWish" "NoBands" = some false := h ("NoBands", false) (by decide +kernel)
  have a_NoText : T.xs "NoWish" "NoText" = some false := h ("NoText", false) (by decide +kernel)
  have a_NoPicture : T.xs "NoWish" "NoPicture" = some false := h ("NoPicture", false) (by decide +kernel)
  have a_NoWish : T.xs "NoWish" "NoWish" = some true := h ("NoWish", true) (by decide +kernel)
  have a_NoHistory : T.xs "NoWish" "NoHistory" = some false := h ("NoHistory", false) (by decide +kernel)
  have a_NoNames : T.xs "NoWish" "NoNames" = some false := h ("NoNames", false) (by decide +kernel)
  have a_NoRules : T.xs "NoWish" "NoRules" = some false := h ("NoRules", false) (by decide +kernel)
  have a_NoHands : T.xs "NoWish" "NoHands" = some false := h ("NoHands", false) (by decide +kernel)
  have a_NoTorn : T.xs "NoWish" "NoTorn" = some false := h ("NoTorn", false) (by decide +kernel)
  have a_NoCells : T.xs "NoWish" "NoCells" = some false := h ("NoCells", false) (by decide +kernel)
  have a_NoDeed : T.xs "NoWish" "NoDeed" = some false := h ("NoDeed", false) (by decide +kernel)
  have a_NoCount : T.xs "NoWish" "NoCount" = some false := h ("NoCount", false) (by decide +kernel)
  have a_NoRow : T.xs "NoWish" "NoRow" = some false := h ("NoRow", false) (by decide +kernel)
  have a_NoBoard : T.xs "NoWish" "NoBoard" = some false := h ("NoBoard", false) (by decide +kernel)
  have a_NoBand : T.xs "NoWish" "NoBand" = some false := h ("NoBand", false) (by decide +kernel)
  have a_NoCell : T.xs "NoWish" "NoCell" = some false := h ("NoCell", false) (by decide +kernel)
  have a_NoBack : T.xs "NoWish" "NoBack" = some false := h ("NoBack", false) (by decide +kernel)
  have a_NoWay : T.xs "NoWish" "NoWay" = some false := h ("NoWay", false) (by decide +kernel)
  have a_TooMany : T.xs "NoWish" "TooMany" = some false := h ("TooMany", false) (by decide +kernel)
  have a_Full : T.xs "NoWish" "Full" = some false := h ("Full", false) (by decide +kernel)
  have a_CoatError : T.xs "NoWish" "CoatError" = some true := h ("CoatError", true) (by decide +kernel)
  have a_StandError : T.xs "NoWish" "StandError" = some false := h ("StandError", false) (by decide +kernel)
  have a_RoomError : T.xs "NoWish" "RoomError" = some false := h ("RoomError", false) (by decide +kernel)
  have a_ValueError : T.xs "NoWish" "ValueError" = some true := h ("ValueError", true) (by decide +kernel)
  have a_LookupError : T.xs "NoWish" "LookupError" = some false := h ("LookupError", false) (by decide +kernel)
  have a_ArithmeticError : T.xs "NoWish" "ArithmeticError" = some false := h ("ArithmeticError", false) (by decide +kernel)
  simp_all_arith [b_sort1, n_sort1, x_isx]
  refine ⟨⟨_, _, a_NoSize⟩, _, _, _, _, rfl, a_NoSize, ⟨_, _, a_NoBands⟩, _, _, _, _, rfl, a_NoBands, ⟨_, _, a_NoText⟩, _, _, _, _, rfl, a_NoText, ⟨_, _, a_NoPicture⟩, _, _, _, _, rfl, a_NoPicture, ?_⟩
  intro p1 hp1
  simp_all_arith [c_sort1_11, x_isx]
  refine ⟨⟨_, _, a_NoWish⟩, _, _, _, _, rfl, a_NoWish, ⟨_, _, a_NoHistory⟩, _, _, _, _, rfl, a_NoHistory, ⟨_, _, a_NoNames⟩, _, _, _, _, rfl, a_NoNames, ⟨_, _, a_NoRules⟩, _, _, _, _, rfl, a_NoRules, ?_⟩
  simp_all_arith [seqL]
  rw [Sto.set_same]
  refine ⟨_, _, rfl, rfl, by decide, ?_⟩
  intro p2 hp2
  simp_all_arith [c_sort1_10, x_isx]
  refine ⟨⟨_, _, a_NoHands⟩, _, _, _, _, rfl, a_NoHands, ⟨_, _, a_NoTorn⟩, _, _, _, _, rfl, a_NoTorn, ⟨_, _, a_NoCells⟩, _, _, _, _, rfl, a_NoCells, ⟨_, _, a_NoDeed⟩, _, _, _, _, rfl, a_NoDeed, ?_⟩
  simp_all_arith [seqL]
  rw [Sto.set_same]
  refine ⟨_, _, rfl, rfl, by decide, ?_⟩
  intro p3 hp3
  simp_all_arith [c_sort1_9, x_isx]
  refine ⟨⟨_, _, a_NoCount⟩, _, _, _, _, rfl, a_NoCount, ⟨_, _, a_NoRow⟩, _, _, _, _, rfl, a_NoRow, ⟨_, _, a_NoBoard⟩, _, _, _, _, rfl, a_NoBoard, ⟨_, _, a_NoBand⟩, _, _, _, _, rfl, a_NoBand, ?_⟩
  simp_all_arith [seqL]
  rw [Sto.set_same]
  refine ⟨_, _, rfl, rfl, by decide, ?_⟩
  intro p4 hp4
  simp_all_arith [c_sort1_8, x_isx]
  refine ⟨⟨_, _, a_NoCell⟩, _, _, _, _, rfl, a_NoCell, ⟨_, _, a_NoBack⟩, _, _, _, _, rfl, a_NoBack, ⟨_, _, a_NoWay⟩, _, _, _, _, rfl, a_NoWay, ⟨_, _, a_TooMany⟩, _, _, _, _, rfl, a_TooMany, ?_⟩
  simp_all_arith [seqL]
  rw [Sto.set_same]
  refine ⟨_, _, rfl, rfl, by decide, ?_⟩
  intro p5 hp5
  simp_all_arith [c_sort1_7, x_isx]
  refine ⟨⟨_, Sto.set_same⟩, ⟨_, _, a_Full⟩, _, _, _, _, rfl, a_Full, ⟨_, Sto.set_same, by decide, ?_⟩⟩
  rw [Sto.set_set]
  simp_all_arith [c_sort1_6, x_isx]
  refine ⟨⟨_, _, a_CoatError⟩, _, _, _, _, rfl, a_CoatError, ⟨_, _, a_StandError⟩, _, _, _, _, rfl, a_StandError, ⟨_, _, a_RoomError⟩, _, _, _, _, rfl, a_RoomError, ?_⟩
  simp_all_arith [c_sort1_5, x_isx]
  refine ⟨⟨_, _, a_ValueError⟩, _, _, _, _, rfl, a_ValueError, ⟨_, _, a_LookupError⟩, _, _, _, _, rfl, a_LookupError, ⟨_, _, a_ArithmeticError⟩, _, _, _, _, rfl, a_ArithmeticError, ?_⟩
  have sb : Sub S (((((S.set p1 (.lst [.bl false, .bl false, .bl false, .bl false])).set p2 (.lst [.bl false, .bl false, .bl false, .bl false, .bl true, .bl false, .bl false, .bl false])).set p3 (.lst [.bl false, .bl false, .bl false, .bl false, .bl true, .bl false, .bl false, .bl false, .bl false, .bl false, .bl false, .bl false])).set p4 (.lst [.bl false, .bl false, .bl false, .bl false, .bl true, .bl false, .bl false, .bl false, .bl false, .bl false, .bl false, .bl false, .bl false, .bl false, .bl false, .bl false])).set p5 (.lst [.bl false, .bl false, .bl false, .bl false, .bl true, .bl false, .bl false, .bl false, .bl false, .bl false, .bl false, .bl false, .bl false, .bl false, .bl false, .bl false, .bl false, .bl false, .bl false, .bl false, .bl false])) := (Sub.set_new hp1).trans ((Sub.set_new hp2).trans ((Sub.set_new hp3).trans ((Sub.set_new hp4).trans (Sub.set_new hp5))))
  have e5 : (((((S.set p1 (.lst [.bl false, .bl false, .bl false, .bl false])).set p2 (.lst [.bl false, .bl false, .bl false, .bl false, .bl true, .bl false, .bl false, .bl false])).set p3 (.lst [.bl false, .bl false, .bl false, .bl false, .bl true, .bl false, .bl false, .bl false, .bl false, .bl false, .bl false, .bl false])).set p4 (.lst [.bl false, .bl false, .bl false, .bl false, .bl true, .bl false, .bl false, .bl false, .bl false, .bl false, .bl false, .bl false, .bl false, .bl false, .bl false, .bl false])).set p5 (.lst [.bl false, .bl false, .bl false, .bl false, .bl true, .bl false, .bl false, .bl false, .bl false, .bl false, .bl false, .bl false, .bl false, .bl false, .bl false, .bl false, .bl false, .bl false, .bl false, .bl false, .bl false])) p5 = some (.lst [.bl false, .bl false, .bl false, .bl false, .bl true, .bl false, .bl false, .bl false, .bl false, .bl false, .bl false, .bl false, .bl false, .bl false, .bl false, .bl false, .bl false, .bl false, .bl false, .bl false, .bl false]) := Sto.set_same
  generalize (((((S.set p1 (.lst [.bl false, .bl false, .bl false, .bl false])).set p2 (.lst [.bl false, .bl false, .bl false, .bl false, .bl true, .bl false, .bl false, .bl false])).set p3 (.lst [.bl false, .bl false, .bl false, .bl false, .bl true, .bl false, .bl false, .bl false, .bl false, .bl false, .bl false, .bl false])).set p4 (.lst [.bl false, .bl false, .bl false, .bl false, .bl true, .bl false, .bl false, .bl false, .bl false, .bl false, .bl false, .bl false, .bl false, .bl false, .bl false, .bl false])).set p5 (.lst [.bl false, .bl false, .bl false, .bl false, .bl true, .bl false, .bl false, .bl false, .bl false, .bl false, .bl false, .bl false, .bl false, .bl false, .bl false, .bl false, .bl false, .bl false, .bl false, .bl false, .bl false])) = S5 at sb e5 ⊢
  simp_all_arith [c_sort1_4, meT, meS, seqL, e5]
  refine ⟨.inr ⟨_, _, rfl, e5⟩, rfl, rfl, ?_⟩
  show cmpS .NotEq (.lst [.bl true, .bl false, .bl false]) (.lst [.bl true, .bl false, .bl false]) S5 _
  rw [c_ne, beq_refl _ rfl]
  refine ⟨⟨rfl, rfl, by decide, by decide⟩, _, rfl, ?_⟩
  simp_all_arith [wFn]
  simp_all_arith [c_sort1_3, meT, meS, seqL, e5]
  refine ⟨.inr ⟨_, _, rfl, e5⟩, rfl, rfl, rfl, ?_⟩
  have ei : List.findIdx (fun z => beq z (.bl true)) [.bl false, .bl false, .bl false, .bl false, .bl true, .bl false, .bl false, .bl false, .bl false, .bl false, .bl false, .bl false, .bl false, .bl false, .bl false, .bl false, .bl false, .bl false, .bl false, .bl false, .bl false] = 4 := rfl
  rw [ei, show ((4 : Nat) : Int) = 4 from rfl]
  simp_all_arith [c_sort1_2]
  refine ⟨by decide, ?_⟩
  have er : (List.map (fun k : Nat => D.int (0 + (k : Int))) (List.range (Int.toNat 3))) = [.int 0, .int 1, .int 2] := rfl
  rw [er]
  refine wLc_pure (fun d => .bl (beq d (.int 0))) (fun _ => true) trivial (fun d hd k1 k0 hk1 hk0 => ?_) (by decide) ?_
  · simp only [List.mem_cons, List.not_mem_nil, or_false] at hd
    rcases hd with rfl | rfl | rfl
    · simp_all_arith [wFn]
      exact hk1 rfl
    · simp_all_arith [wFn]
      exact hk1 rfl
    · simp_all_arith [wFn]
      exact hk1 rfl
  · rw [filter_all, List.nil_append]
    show cmpS .NotEq (.lst [.bl true, .bl false, .bl false]) (.lst [.bl true, .bl false, .bl false]) S5 _
    rw [c_ne, beq_refl _ rfl]
    refine ⟨⟨rfl, rfl, by decide, by decide⟩, _, rfl, ?_⟩
    simp_all_arith [wFn]
    simp_all_arith [c_sort1_1]
    simp_all_arith [c_sort1_0]
    first | exact ⟨S, sb, q⟩ | exact ⟨_, rfl, S, sb, q⟩ | exact ⟨by decide, _, rfl, S, sb, q⟩
def φ_sort1 : FSp := fun ds S Q E => match ds with
  | [x] => ∃ (C : Str) (ns : List Str) (vs : List D) (w : List Nat), x = .exn C ns vs ∧ ((C = "NoBoard" ∧ w = [98, 111, 97, 114, 100]) ∨ (C = "NoPicture" ∧ w = [112, 105, 99, 116, 117, 114, 101]) ∨ (C = "NoWish" ∧ w = [119, 105, 115, 104])) ∧ Q (.str w) S
  | _ => False
theorem e_sort1 {x : D} {S : Sto} {Q : QV} {E : QX} : φ_sort1 [x] S Q E = (∃ (C : Str) (ns : List Str) (vs : List D) (w : List Nat), x = .exn C ns vs ∧ ((C = "NoBoard" ∧ w = [98, 111, 97, 114, 100]) ∨ (C = "NoPicture" ∧ w = [112, 105, 99, 116, 117, 114, 101]) ∨ (C = "NoWish" ∧ w = [119, 105, 115, 104])) ∧ Q (.str w) S) := rfl -- phi
theorem ok_sort1 (x0 : T.Xs "NoBoard" (rowX 14 1)) (x1 : T.Xs "NoPicture" (rowX 3 0)) (x2 : T.Xs "NoWish" (rowX 4 0)) : Ok T n_sort1 b_sort1 φ_sort1 := by
  intro ds S Q E hφ
  match ds, hφ with
  | [x], hh =>
    obtain ⟨C, ns, vs, w, rfl, hc, q⟩ := hh
    rcases hc with ⟨rfl, rfl⟩ | ⟨rfl, rfl⟩ | ⟨rfl, rfl⟩
    · exact sort1_NoBoard x0 q
    · exact sort1_NoPicture x1 q
    · exact sort1_NoWish x2 q
end
--lvl3
/-! K09e: refused, the law. -/
def tpD (w : List Nat) (z : List Nat) : D := .tup [.str w, .str z]
--lvl3
/-! K09f: refusals, the law. -/
--lvl3
/-! K08b: things that are pictures, wishes, and none. -/
/-- small -/
def szK : D → Prop
  | .str s => s.length ≤ 1000
  | .tup xs => xs.length ≤ 1000
  | _ => True
theorem szK_ok : ∀ {x : D}, szK x → szOk x := by
  intro x h
  cases x with
  | str s => have h : s.length ≤ 1000 := h; show s.length ≤ lim; unfold lim; omega
  | tup xs => have h : xs.length ≤ 1000 := h; show xs.length ≤ lim; unfold lim; omega
  | _ => trivial
/-- a matter that can be asked about -/
structure Mat (y : D) : Prop where
  ak : ∀ S, Ak S y
  sz : szK y
  el : ∀ xs, y = .tup xs → ∀ d ∈ xs, (∀ S, Ak S d) ∧ szK d
theorem Mat.wk {y : D} (h : Mat y) (S : Sto) : wishAk S y := by
  cases y with
  | tup xs => exact fun d hd => ⟨(h.el xs rfl d hd).1 S, szK_ok (h.el xs rfl d hd).2⟩
  | _ => trivial
theorem mat_non : Mat .non := ⟨fun _ => ak_non.mpr trivial, trivial, fun _ e => nomatch e⟩
theorem mat_bl {b : Bool} : Mat (.bl b) := ⟨fun _ => ak_bl.mpr trivial, trivial, fun _ e => nomatch e⟩
theorem mat_int {i : Int} : Mat (.int i) := ⟨fun _ => ak_int.mpr trivial, trivial, fun _ e => nomatch e⟩
theorem mat_str {s : List Nat} (h : s.length ≤ 1000) : Mat (.str s) := ⟨fun _ => ak_str.mpr trivial, h, fun _ e => nomatch e⟩
theorem mat_lst {xs : List D} : Mat (.lst xs) := ⟨fun _ => ak_lst.mpr trivial, trivial, fun _ e => nomatch e⟩
theorem mat_dct {xs ys : List D} : Mat (.dct xs ys) := ⟨fun _ => ak_dct.mpr trivial, trivial, fun _ e => nomatch e⟩
theorem mat_tup {xs : List D} (h : xs.length ≤ 1000) (k : ∀ d ∈ xs, Mat d) : Mat (.tup xs) := ⟨fun _ => ak_tup.mpr trivial, h, fun ys e d hd => by cases e; exact ⟨(k d hd).ak, (k d hd).sz⟩⟩
theorem mat_wish {ws : List (List Nat)} {n : Nat} (hw : WOk n ws) (hn : n ≤ 36) : ∀ d ∈ ws.map D.str, Mat d := fun d hd => by
  obtain ⟨p, hp, rfl⟩ := List.mem_map.mp hd
  have := part_len (hw.ok p hp).1 (hw.ok p hp).2
  exact mat_str (by omega)
theorem mat_signs {p : List Nat} : ∀ d ∈ p.map (fun c => D.str [c]), Mat d := fun d hd => by
  obtain ⟨c, _, rfl⟩ := List.mem_map.mp hd
  exact mat_str (by simp)
def oddsL : List D := [.non, .bl true, .bl false, .int 0, .int 7, .str [], .str [65], .str [97], .str [97, 98], .str [98, 97], .str [97, 97], .str [97, 32], .str [49], .str [46], .str [97, 10], .tup [], .tup [.str [97]], .lst [], .lst [.str [97]], .dct [] [], .tup [.lst []]] ++
  [.tup [.non], .int (10 ^ 30), .tup [.str []], .tup [.str [98], .str [97]], .str abc, .tup [.str [65]], .tup [.dct [] []]]
theorem oddsL_ok : ∀ x ∈ oddsL, Mat x := by
  intro x hx
  have t1 : ∀ y : D, Mat y → Mat (.tup [y]) := fun y hy => mat_tup (by simp) fun d hd => by rw [List.mem_singleton.mp hd]; exact hy
  simp only [oddsL, List.mem_append, List.mem_cons, List.not_mem_nil, or_false] at hx
  rcases hx with (rfl | rfl | rfl | rfl | rfl | rfl | rfl | rfl | rfl | rfl | rfl | rfl | rfl | rfl | rfl | rfl | rfl | rfl | rfl | rfl | rfl) | (rfl | rfl | rfl | rfl | rfl | rfl | rfl)
  · exact mat_non
  · exact mat_bl
  · exact mat_bl
  · exact mat_int
  · exact mat_int
  · exact mat_str (by decide)
  · exact mat_str (by decide)
  · exact mat_str (by decide)
  · exact mat_str (by decide)
  · exact mat_str (by decide)
  · exact mat_str (by decide)
  · exact mat_str (by decide)
  · exact mat_str (by decide)
  · exact mat_str (by decide)
  · exact mat_str (by decide)
  · exact mat_tup (by decide) fun d hd => nomatch hd
  · exact t1 _ (mat_str (by decide))
  · exact mat_lst
  · exact mat_lst
  · exact mat_dct
  · exact t1 _ mat_lst
  · exact t1 _ mat_non
  · exact mat_int
  · exact t1 _ (mat_str (by decide))
  · refine mat_tup (by decide) fun d hd => ?_
    simp only [List.mem_cons, List.not_mem_nil, or_false] at hd
    rcases hd with rfl | rfl
    · exact mat_str (by decide)
    · exact mat_str (by decide)
  · exact mat_str (by decide)
  · exact t1 _ (mat_str (by decide))
  · exact t1 _ mat_dct
section
variable {T : Tab} {f0 f1 f2 f3 f4 f5 f6 f7 f8 f9 : Str}
def φ_k08_letters : FSp := fun ds S Q E => match ds with
  | [] => Q (.str abc) S
  | _ => False
theorem e_k08_letters {S : Sto} {Q : QV} {E : QX} : φ_k08_letters [] S Q E = Q (.str abc) S := rfl -- phi
theorem ok_k08_letters : Ok T n_k08_letters b_k08_letters φ_k08_letters := by
  intro ds S Q E hφ
  match ds, hφ with
  | [], q =>
    simp_all_arith [b_k08_letters, n_k08_letters]
    exact ⟨_, Sub.refl _, q⟩
theorem abc_at {r : Nat} (h : (r : Int) < 26) : ∃ y, y ∈ abc ∧ atI abc (r : Int) = some y := atI_mem (by omega) (show (r : Int) < ((26 : Nat) : Int) by omega)
def φ_k08_look : FSp := fun ds S Q E => match ds with
  | [.obj a, .int n] => PS a S ∧ ∃ m : Nat, n = m ∧ m ≤ 36 ∧ ∀ s S', letters s → s.length = m → Kp a S S' → Q (.str s) S'
  | _ => False
theorem e_k08_look {a : Addr} {n : Int} {S : Sto} {Q : QV} {E : QX} : φ_k08_look [.obj a, .int n] S Q E = (PS a S ∧ ∃ m : Nat, n = m ∧ m ≤ 36 ∧ ∀ s S', letters s → s.length = m → Kp a S S' → Q (.str s) S') := rfl -- phi
theorem ok_k08_look (h0 : T.Fn f0 φ_k08_letters) (h1 : T.Fn f1 φ_pick) : Ok T n_k08_look (b_k08_look f0 f1) φ_k08_look := by
  intro ds S Q E hφ
  match ds, hφ with
  | [.obj a, .int n], hh =>
    obtain ⟨hps, m, rfl, hm, q⟩ := hh
    simp_all_arith! [b_k08_look, n_k08_look]
    refine ⟨trivial, by constructor <;> omega, ?_⟩
    have hlr : ((List.range (m : Int).toNat).map fun (k : Nat) => D.int (0 + k)).length = m := by simp
    refine wLc_draw (fun _ c => c ∈ abc) (fun c => .str [c]) hps (by rw [hlr]; unfold lim; omega) (fun j d S' hj hK => ⟨trivial, fun k1 k0 hk => ?_⟩) ?_
    · simp_all_arith! [x_call h0, x_call h1]
      rw [e_k08_letters]
      simp_all_arith! [e_pick]
      refine ⟨hK.1, by decide, by decide, fun r S2 hr hK2 => ?_⟩
      obtain ⟨y, hy, e⟩ := abc_at hr
      exact ⟨by decide, y, e, hk y S2 hy (hK.trans hK2)⟩
    · intro xs S' hl hP hK
      rw [hlr] at hl
      refine ⟨trivial, ?_⟩
      refine join_signs (by rw [hl]; unfold lim; omega) ?_
      refine ⟨_, Sub.refl _, q xs S' (fun c hc => ?_) hl hK⟩
      obtain ⟨i, hi, rfl⟩ := List.getElem_of_mem hc
      exact hP i _ (List.getElem?_eq_getElem hi)
def φ_k08_part : FSp := fun ds S Q E => match ds with
  | [.obj a] => PS a S ∧ ∀ s S', letters s → s.Pairwise (· < ·) → Kp a S S' → Q (.str s) S'
  | _ => False
theorem e_k08_part {a : Addr} {S : Sto} {Q : QV} {E : QX} : φ_k08_part [.obj a] S Q E = (PS a S ∧ ∀ s S', letters s → s.Pairwise (· < ·) → Kp a S S' → Q (.str s) S') := rfl -- phi
theorem ok_k08_part (h0 : T.Fn f0 φ_pick) (h1 : T.Fn f1 φ_k08_letters) : Ok T n_k08_part (b_k08_part f0 f1) φ_k08_part := by
  intro ds S Q E hφ
  match ds, hφ with
  | [.obj a], hh =>
    obtain ⟨hps, q⟩ := hh
    simp_all_arith! [b_k08_part, n_k08_part, x_call h0, e_pick]
    refine ⟨hps, by decide, by decide, fun r S1 hr hK1 => ?_⟩
    cases decide ((r : Int) = 5) with
    | true =>
      simp_all_arith! [x_call h1]
      rw [e_k08_letters]
      exact ⟨_, Sub.refl _, q abc S1 (fun c hc => hc) abc_rise hK1⟩
    | false =>
      simp_all_arith! [c_k08_part_0, x_call h0, e_pick]
      refine ⟨trivial, hK1.1, by decide, by decide, fun r2 S2 hr2 hK2 => ⟨by constructor <;> omega, ?_⟩⟩
      have hlr : ((List.range (r2 : Int).toNat).map fun (k : Nat) => D.int (0 + k)).length = r2 := by simp
      refine wLc_draw (fun _ c => c ∈ abc) (fun c => .str [c]) hK2.1 (by rw [hlr]; unfold lim; omega) (fun j d S' hj hK => ⟨trivial, fun k1 k0 hk => ?_⟩) ?_
      · simp_all_arith! [x_call h0, x_call h1]
        rw [e_k08_letters]
        simp_all_arith! [e_pick]
        refine ⟨hK.1, by decide, by decide, fun r5 S5 hr5 hK5 => ?_⟩
        obtain ⟨y, hy, e⟩ := abc_at hr5
        exact ⟨by decide, y, e, hk y S5 hy (hK.trans hK5)⟩
      intro ts S3 hl hP hK3
      rw [hlr] at hl
      obtain ⟨cs, e, hp, hm, hc⟩ := sort_signs ts
      refine ⟨trivial, .inl ⟨ts.map fun c => [c], by rw [List.map_map]; rfl, by rw [List.length_map]; omega, ?_⟩⟩
      simp_all_arith! [wFn]
      rw [e, List.map_map]
      refine join_signs (by unfold lim; omega) ⟨_, Sub.refl _, q cs S3 (fun c hc' => ?_) hp ((hK1.trans hK2).trans hK3)⟩
      obtain ⟨i, hi, rfl⟩ := List.getElem_of_mem ((hm c).mp hc')
      exact hP i _ (List.getElem?_eq_getElem hi)
def φ_k08_odd : FSp := fun ds S Q E => match ds with
  | [.obj a] => PS a S ∧ ∀ y S', Mat y → Kp a S S' → Q y S'
  | _ => False
theorem e_k08_odd {a : Addr} {S : Sto} {Q : QV} {E : QX} : φ_k08_odd [.obj a] S Q E = (PS a S ∧ ∀ y S', Mat y → Kp a S S' → Q y S') := rfl -- phi
theorem ok_k08_odd (h0 : T.Fn f0 φ_k08_letters) (h1 : T.Fn f1 φ_pick) : Ok T n_k08_odd (b_k08_odd f0 f1) φ_k08_odd := by
  intro ds S Q E hφ
  match ds, hφ with
  | [.obj a], hh =>
    obtain ⟨hps, q⟩ := hh
    simp_all_arith [b_k08_odd, n_k08_odd]
    refine dct_e ?_
    simp_all_arith [c_k08_odd_1, x_call h0]
    rw [e_k08_letters]
    refine ⟨by decide, by decide, by decide, dct_e ?_⟩
    show wSs T (c_k08_odd_0 f0 f1) _ [some (.obj a), some (.lst oddsL)] S _
    simp_all_arith [c_k08_odd_0, x_call h1, e_pick]
    refine ⟨hps, by decide, by decide, fun r S1 hr hK => ?_⟩
    have lo : oddsL.length = 28 := rfl
    exact ⟨_, atI_nat _ r (by omega), _, Sub.refl _, q _ S1 (oddsL_ok _ (List.getElem_mem _)) hK⟩
def φ_k08_blook : FSp := fun ds S Q E => match ds with
  | [.obj a, .str p] => PS a S ∧ 1 ≤ p.length ∧ p.length ≤ 36 ∧ ∀ y S', Mat y → Kp a S S' → Q y S'
  | _ => False
theorem e_k08_blook {a : Addr} {p : List Nat} {S : Sto} {Q : QV} {E : QX} : φ_k08_blook [.obj a, .str p] S Q E = (PS a S ∧ 1 ≤ p.length ∧ p.length ≤ 36 ∧ ∀ y S', Mat y → Kp a S S' → Q y S') := rfl -- phi
theorem cut_len {α : Type} (p : List α) (lo hi : Option Int) : (cut p lo hi).length ≤ p.length := (cut_sub9 p lo hi).2
theorem ok_k08_blook (h0 : T.Fn f0 φ_pick) (h1 : T.Fn f1 φ_k08_odd) : Ok T n_k08_blook (b_k08_blook f0 f1) φ_k08_blook := by
  intro ds S Q E hφ
  match ds, hφ with
  | [.obj a, .str p], hh =>
    obtain ⟨hps, p1, p36, q⟩ := hh
    simp_all_arith [b_k08_blook, n_k08_blook, x_call h0, e_pick]
    refine ⟨by unfold lim; omega, hps, by omega, by omega, fun r S1 hr hK1 => ?_⟩
    refine ⟨hK1.1, by decide, by decide, fun t S2 ht hK2 => ?_⟩
    simp_all_arith [c_k08_blook_2, x_call h0, e_pick]
    refine ⟨hK2.1, by decide, by decide, fun v S3 hv hK3 => ?_⟩
    obtain ⟨y, hy, e⟩ := atI_mem (l := [D.str [65], .str [49], .str [32], .str [10], .str [46], .str [], .str [97, 97], .str [45], .str [123], .str [96]]) (i := (v : Int)) (by omega) hv
    obtain ⟨sg, rfl, hsg⟩ : ∃ sg : List Nat, y = .str sg ∧ sg.length ≤ 2 := by
      simp only [List.mem_cons, List.not_mem_nil, or_false] at hy
      rcases hy with rfl | rfl | rfl | rfl | rfl | rfl | rfl | rfl | rfl | rfl <;> exact ⟨_, rfl, by decide⟩
    refine ⟨_, e, ?_⟩
    have hK := (hK1.trans hK2).trans hK3
    simp_all_arith [c_k08_blook_1]
    have c1 := cut_len p none (some (r : Int))
    have c2 := cut_len p (some ((r : Int) + 1)) none
    cases hd : decide ((t : Int) < 3) with
    | true =>
      simp_all_arith [wO_c, wO_nc, wO_no]
      exact ⟨by unfold lim; omega, by unfold lim; omega, by unfold lim; omega, by rw [List.length_append]; unfold lim; omega, _, Sub.refl _, q _ S3 (mat_str (by simp only [List.length_append]; omega)) hK⟩
    | false =>
      have ht3 := of_decide_eq_false hd
      simp_all_arith [c_k08_blook_0, x_call h1, wO_c, wO_nc, wO_no]
      rw [e_k08_odd]
      refine ⟨by unfold lim; omega, by unfold lim; omega, by unfold lim; omega, by unfold lim; omega, hK.1, fun y S4 hy hK4 => ?_⟩
      obtain ⟨z, hz, e⟩ := atI_mem (l := [D.str (p ++ [97]), D.str (cut p (some 1) none), D.lst (List.map (fun c => D.str [c]) p), D.tup (List.map (fun c => D.str [c]) p), y]) (i := (t : Int) - 3) (by omega) (by show _ < ((5 : Nat) : Int); omega)
      refine ⟨z, e, _, Sub.refl _, q z S4 ?_ (hK.trans hK4)⟩
      have c3 := cut_len p (some 1) none
      simp only [List.mem_cons, List.not_mem_nil, or_false] at hz
      rcases hz with rfl | rfl | rfl | rfl | rfl
      · exact mat_str (by rw [List.length_append, List.length_singleton]; omega)
      · exact mat_str (by omega)
      · exact mat_lst
      · exact mat_tup (by rw [List.length_map]; omega) mat_signs
      · exact hy
def φ_k08_bdream : FSp := fun ds S Q E => match ds with
  | [.obj a, y] => PS a S ∧ ∃ n ws, y = wishD ws ∧ WOk n ws ∧ 1 ≤ n ∧ n ≤ 36 ∧ ∀ y S', Mat y → Kp a S S' → Q y S'
  | _ => False
theorem e_k08_bdream {a : Addr} {y : D} {S : Sto} {Q : QV} {E : QX} : φ_k08_bdream [.obj a, y] S Q E = (PS a S ∧ ∃ n ws, y = wishD ws ∧ WOk n ws ∧ 1 ≤ n ∧ n ≤ 36 ∧ ∀ y S', Mat y → Kp a S S' → Q y S') := rfl -- phi
theorem ok_k08_bdream (h0 : T.Fn f0 φ_pick) (h1 : T.Fn f1 φ_k08_odd) : Ok T n_k08_bdream (b_k08_bdream f0 f1) φ_k08_bdream := by
  intro ds S Q E hφ
  match ds, hφ with
  | [.obj a, _], hh =>
    obtain ⟨hps, n, ws, rfl, hw, n1, n36, q⟩ := hh
    have lw : (ws.map D.str).length = n := by rw [List.length_map]; exact hw.len
    have hm := mat_wish hw n36
    simp_all_arith [b_k08_bdream, n_k08_bdream, x_call h0, e_pick, wishD]
    refine ⟨hps, by omega, by omega, fun r S1 hr hK1 => ?_⟩
    refine ⟨hK1.1, by decide, by decide, fun t S2 ht hK2 => ?_⟩
    have hK := hK1.trans hK2
    simp_all_arith [c_k08_bdream_1]
    have c1 := cut_sub9 (ws.map D.str) none (some (r : Int))
    have c2 := cut_sub9 (ws.map D.str) (some ((r : Int) + 1)) none
    have c3 := cut_sub9 (ws.map D.str) (some 1) none
    cases hd : decide ((t : Int) < 4) with
    | true =>
      simp_all_arith [x_call h1, wO_c, wO_nc, wO_no]
      rw [e_k08_odd]
      refine ⟨hK.1, fun y S3 hy hK3 => ?_⟩
      refine ⟨by unfold lim; omega, by simp only [List.length_append, List.length_cons, List.length_nil]; unfold lim; omega, _, Sub.refl _, q _ S3 (mat_tup (by simp only [List.length_append, List.length_cons, List.length_nil]; omega) fun d hd => ?_) (hK.trans hK3)⟩
      rcases List.mem_append.mp hd with hd | hd
      · rcases List.mem_append.mp hd with hd | hd
        · exact hm d (c1.1 d hd)
        · rw [List.mem_singleton.mp hd]; exact hy
      · exact hm d (c2.1 d hd)
    | false =>
      have ht3 := of_decide_eq_false hd
      simp_all_arith [c_k08_bdream_0, x_call h1, wO_c, wO_nc, wO_no]
      refine ⟨by unfold lim; omega, ?_⟩
      refine ⟨_, rfl, ?_⟩
      unfold newL
      rw [if_pos rfl]
      dsimp only
      rw [e_k08_odd]
      refine ⟨hK.1, fun y S4 hy hK4 => ?_⟩
      obtain ⟨z, hz, e⟩ := atI_mem (l := [D.tup (ws.map D.str ++ [.str []]), D.tup (cut (ws.map D.str) (some 1) none), D.lst (ws.map D.str), y]) (i := (t : Int) - 4) (by omega) (by show _ < ((4 : Nat) : Int); omega)
      refine ⟨z, e, _, Sub.refl _, q z S4 ?_ (hK.trans hK4)⟩
      simp only [List.mem_cons, List.not_mem_nil, or_false] at hz
      rcases hz with rfl | rfl | rfl | rfl
      · refine mat_tup (by rw [List.length_append, List.length_singleton]; omega) fun d hd => ?_
        rcases List.mem_append.mp hd with hd | hd
        · exact hm d hd
        · rw [List.mem_singleton.mp hd]; exact mat_str (by decide)
      · exact mat_tup (by omega) fun d hd => hm d (c3.1 d hd)
      · exact mat_lst
      · exact hy
/-! ### what they are -/
def φ_k08_islet : FSp := fun ds S Q E => match ds with
  | [x] => Ak S x ∧ szOk x ∧ Q (.bl (coloursB x)) S
  | _ => False
theorem e_k08_islet {x : D} {S : Sto} {Q : QV} {E : QX} : φ_k08_islet [x] S Q E = (Ak S x ∧ szOk x ∧ Q (.bl (coloursB x)) S) := rfl -- phi
theorem ok_k08_islet (h0 : T.Fn f0 φ_k08_letters) : Ok T n_k08_islet (b_k08_islet f0) φ_k08_islet := by
  intro ds S Q E hφ
  match ds, hφ with
  | [x], ⟨hk, hs, q⟩ =>
    simp_all_arith! [b_k08_islet, n_k08_islet]
    refine ⟨hk, ?_⟩
    cases x with
    | str s =>
      refine ⟨_, rfl, ?_⟩
      refine wLc_pure (fun d => match d with | .str [c] => .bl (decide (c ∈ abc)) | _ => .non) (fun _ => true) trivial (fun d hd k1 k0 hk1 hk0 => ?_) (by rw [List.length_map]; simpa using (show s.length ≤ lim from hs)) ?_
      · obtain ⟨c, hc, rfl⟩ := List.mem_map.mp hd
        simp_all_arith! [x_call h0]
        rw [e_k08_letters]
        simp_all_arith! [wFn]
        exact hk1 rfl
      · rw [filter_all, List.nil_append, List.map_map]
        refine ⟨s.map fun c => decide (c ∈ abc), ?_, S, Sub.refl S, ?_⟩
        · rw [List.map_map]; rfl
        · rw [all_id]; exact q
    | _ => exact ⟨S, Sub.refl S, q⟩
def φ_k08_islook : FSp := fun ds S Q E => match ds with
  | [.int n, x] => ∃ m : Nat, n = m ∧ Ak S x ∧ szOk x ∧ Q (.bl (picB x m)) S
  | _ => False
theorem e_k08_islook {n : Int} {x : D} {S : Sto} {Q : QV} {E : QX} : φ_k08_islook [.int n, x] S Q E = (∃ m : Nat, n = m ∧ Ak S x ∧ szOk x ∧ Q (.bl (picB x m)) S) := rfl -- phi
theorem ok_k08_islook (h0 : T.Fn f0 φ_k08_islet) : Ok T n_k08_islook (b_k08_islook f0) φ_k08_islook := by
  intro ds S Q E hφ
  match ds, hφ with
  | [.int n, x], ⟨m, e, hk, hs, q⟩ =>
    subst e
    simp_all_arith [b_k08_islook, n_k08_islook, x_call h0]
    rw [e_k08_islet]
    refine ⟨hk, hs, ?_⟩
    unfold picB at q
    cases hc : coloursB x with
    | false =>
      rw [hc, Bool.false_and] at q
      exact ⟨false, rfl, _, Sub.refl _, q⟩
    | true =>
      rw [hc, Bool.true_and] at q
      refine ⟨true, rfl, ?_⟩
      cases x with
      | str s =>
        simp_all_arith [wFn]
        exact ⟨hs, _, Sub.refl _, q⟩
      | _ => cases hc
theorem rise_eq {a b : List Nat} (ha : a.Pairwise (· < ·)) (hb : b.Pairwise (· < ·)) (h : ∀ x, x ∈ a ↔ x ∈ b) : a = b := by
  have := up_eq (a := a.map fun c => [c]) (b := b.map fun c => [c]) (List.pairwise_map.mpr (ha.imp fun h => one_lt'.mpr h)) (List.pairwise_map.mpr (hb.imp fun h => one_lt'.mpr h)) fun x => by
    rw [List.mem_map, List.mem_map]
    constructor
    · rintro ⟨c, hc, rfl⟩; exact ⟨c, (h c).mp hc, rfl⟩
    · rintro ⟨c, hc, rfl⟩; exact ⟨c, (h c).mpr hc, rfl⟩
  exact (List.map_inj_right (fun a b h => by cases h; rfl)).mp this
theorem beqs_signs : ∀ a b : List Nat, beqs (a.map fun c => D.str [c]) (b.map fun c => D.str [c]) = decide (a = b)
  | [], [] => by unfold beqs; simp
  | [], y :: b => by unfold beqs; simp
  | x :: a, [] => by unfold beqs; simp
  | x :: a, y :: b => by
    show beqs (D.str [x] :: a.map fun c => D.str [c]) (D.str [y] :: b.map fun c => D.str [c]) = _
    unfold beqs
    rw [beqs_signs a b]
    have e : beq (.str [x]) (.str [y]) = decide (x = y) := by unfold beq; by_cases h : x = y <;> simp [h]
    rw [e]
    by_cases h : x = y
    · subst h; simp
    · simp [h]
theorem plain_signs (a : List Nat) : plain (.lst (a.map fun c => D.str [c])) = true ∧ depth (.lst (a.map fun c => D.str [c])) ≤ 64 := by
  have key : plains (a.map fun c => D.str [c]) = true ∧ depths (a.map fun c => D.str [c]) = 0 := by
    induction a with
    | nil => exact ⟨rfl, rfl⟩
    | cons p r ih =>
      rw [List.map_cons, plains, depths, ih.1, ih.2]
      exact ⟨rfl, rfl⟩
  unfold plain depth
  rw [key.1, key.2]
  exact ⟨rfl, by decide⟩
def φ_k08_isdream : FSp := fun ds S Q E => match ds with
  | [.int n, x] => ∃ m : Nat, n = m ∧ Mat x ∧ Q (.bl (wishB x m)) S
  | _ => False
theorem e_k08_isdream {n : Int} {x : D} {S : Sto} {Q : QV} {E : QX} : φ_k08_isdream [.int n, x] S Q E = (∃ m : Nat, n = m ∧ Mat x ∧ Q (.bl (wishB x m)) S) := rfl -- phi
theorem ok_k08_isdream (h0 : T.Fn f0 φ_k08_islet) : Ok T n_k08_isdream (b_k08_isdream f0) φ_k08_isdream := by
  intro ds S Q E hφ
  match ds, hφ with
  | [.int n, x], ⟨m, e, hx, q⟩ =>
    subst e
    simp_all_arith [b_k08_isdream, n_k08_isdream]
    refine ⟨hx.ak S, ?_⟩
    cases x with
    | tup xs =>
      have hs : xs.length ≤ 1000 := hx.sz
      simp_all_arith [c_k08_isdream_2]
      unfold wishB at q
      dsimp only at q
      by_cases hl : xs.length = m
      · rw [decide_eq_true hl] at q ⊢
        rw [Bool.true_and] at q
        simp_all_arith [c_k08_isdream_1]
        refine wLc_pure (fun d => .bl (coloursB d)) (fun _ => true) trivial (fun d hd k1 k0 hk1 hk0 => ?_) (by rw [List.length_nil]; unfold lim; omega) ?_
        · simp_all_arith [x_call h0]
          rw [e_k08_islet]
          have := hx.el xs rfl d hd
          exact ⟨this.1 S, szK_ok this.2, hk1 rfl⟩
        · rw [filter_all, List.nil_append]
          refine b_allM xs coloursB ?_
          cases hc : xs.all coloursB with
          | false =>
            have : xs.all partB = false := by
              rw [List.all_eq_false] at hc ⊢
              obtain ⟨d, hd, hn⟩ := hc
              refine ⟨d, hd, fun hp => hn ?_⟩
              cases d with
              | str s => unfold partB at hp; rw [Bool.and_eq_true] at hp; exact hp.1
              | _ => exact hp
            rw [this] at q
            simp_all_arith [wFn]
            exact ⟨_, Sub.refl _, q⟩
          | true =>
            simp_all_arith [c_k08_isdream_0]
            refine wLc_pure (fun d => .bl (partB d)) (fun _ => true) trivial (fun d hd k1 k0 hk1 hk0 => ?_) (by rw [List.length_nil]; unfold lim; omega) ?_
            · have hcd := List.all_eq_true.mp hc d hd
              cases d with
              | str s =>
                have hsz : s.length ≤ 1000 := (hx.el xs rfl _ hd).2
                obtain ⟨cs, e, hp, hm, hcl⟩ := sort_signs s
                simp_all_arith [wFn]
                refine ⟨by unfold lim; omega, ?_⟩
                refine .inl ⟨s.map fun c => [c], by rw [List.map_map]; rfl, by rw [List.length_map]; omega, ?_⟩
                simp_all_arith [wFn]
                rw [e, List.map_map]
                show cmpS .Eq (.lst (s.map fun c => D.str [c])) (.lst (cs.map fun c => D.str [c])) S _
                rw [c_eq]
                refine ⟨⟨(plain_signs s).1, (plain_signs cs).1, (plain_signs s).2, (plain_signs cs).2⟩, ?_⟩
                have ep : partB (.str s) = beq (.lst (s.map fun c => D.str [c])) (.lst (cs.map fun c => D.str [c])) := by
                  unfold beq partB
                  rw [beqs_signs]
                  dsimp only
                  have : (s.all fun c => decide (c ∈ abc)) = true := hcd
                  rw [this, Bool.true_and]
                  by_cases hr : risS s = true
                  · rw [hr, decide_eq_true (rise_eq (ris_back hr) hp fun x => (hm x).symm)]
                  · have : risS s = false := by simpa using hr
                    rw [this, decide_eq_false fun e9 => hr (ris_of (by rw [e9]; exact hp))]
                rw [← ep]
                exact hk1 rfl
              | _ => cases hcd
            · rw [filter_all, List.nil_append]
              exact b_allM xs partB ⟨S, Sub.refl S, q⟩
      · rw [decide_eq_false hl] at q ⊢
        rw [Bool.false_and] at q
        simp_all_arith [wFn]
        exact ⟨_, Sub.refl _, q⟩
    | _ => exact ⟨_, Sub.refl _, q⟩
def φ_k08_truth : FSp := fun ds S Q E => match ds with
  | [.bl b, .bl c] => Q (.bl (b == c)) S
  | _ => False
theorem e_k08_truth {b c : Bool} {S : Sto} {Q : QV} {E : QX} : φ_k08_truth [.bl b, .bl c] S Q E = Q (.bl (b == c)) S := rfl -- phi
theorem ok_k08_truth : Ok T n_k08_truth b_k08_truth φ_k08_truth := by
  intro ds S Q E hφ
  match ds, hφ with
  | [.bl b, .bl c], q =>
    simp_all_arith [b_k08_truth, n_k08_truth]
    rw [c_eq]
    have e : beq (.bl b) (.bl c) = (b == c) := by cases b <;> cases c <;> rfl
    rw [e]
    exact ⟨⟨rfl, rfl, by unfold depth; omega, by unfold depth; omega⟩, _, Sub.refl _, q⟩
theorem pos_is_picture {h w : Nat} {bs : List Band} {y : D} {S : Sto} {Q : QV} {E : QX} (k : BOk h w bs) (hy : Mat y) (q : Q (.bl (picB y (h * w))) S) : φ_is_picture [brd h w bs, y] S Q E :=
  ⟨ak_brd.mpr trivial, hy.ak S, szK_ok hy.sz, by rw [if_pos isO_brd]; exact ⟨h, w, bs, rfl, k, q⟩⟩
theorem pos_is_wish {h w : Nat} {bs : List Band} {y : D} {S : Sto} {Q : QV} {E : QX} (k : BOk h w bs) (hy : Mat y) (q : Q (.bl (wishB y (h * w))) S) : φ_is_wish [brd h w bs, y] S Q E :=
  ⟨ak_brd.mpr trivial, ⟨hy.ak S, szK_ok hy.sz, hy.wk S⟩, by rw [if_pos isO_brd]; exact ⟨h, w, bs, rfl, k, q⟩⟩
def φ_k08_told : FSp := fun ds S Q E => match ds with
  | [x, .int n, y] => ∃ h w bs, x = brd h w bs ∧ BOk h w bs ∧ n = ((h * w : Nat) : Int) ∧ Mat y ∧ Q (.bl true) S
  | _ => False
theorem e_k08_told {x : D} {n : Int} {y : D} {S : Sto} {Q : QV} {E : QX} : φ_k08_told [x, .int n, y] S Q E = (∃ h w bs, x = brd h w bs ∧ BOk h w bs ∧ n = ((h * w : Nat) : Int) ∧ Mat y ∧ Q (.bl true) S) := rfl -- phi
theorem ok_k08_told (h0 : T.Fn f0 φ_k08_islook) (h1 : T.Fn f1 φ_k08_isdream) (f1' : T.Fn "is_picture" φ_is_picture) (f2' : T.Fn "is_wish" φ_is_wish) (k0 : T.Kw "is_picture" 0 ["thing", "board"] [.inl 1, .inl 0] φ_is_picture) (k1 : T.Kw "is_wish" 0 ["thing", "board"] [.inl 1, .inl 0] φ_is_wish) (h2 : T.Fn f2 φ_k08_truth) : Ok T n_k08_told (b_k08_told f0 f1 f2) φ_k08_told := by
  intro ds S Q E hφ
  match ds, hφ with
  | [x, .int n, y], hh =>
    obtain ⟨h, w, bs, rfl, k, rfl, hy, q⟩ := hh
    simp_all_arith [b_k08_told, n_k08_told, x_call h0, x_call h1]
    rw [e_k08_islook]
    refine ⟨h * w, rfl, hy.ak S, szK_ok hy.sz, ?_⟩
    rw [e_k08_isdream]
    refine ⟨h * w, rfl, hy, ?_⟩
    simp_all_arith [c_k08_told_2, x_call f1', x_call f2', x_callk0 k0]
    refine pos_is_picture k hy ?_
    refine pos_is_wish k hy ?_
    refine pos_is_picture k hy ?_
    intro p hp
    simp_all_arith [c_k08_told_1, x_callk0 k1]
    refine ⟨⟨_, Sto.set_same⟩, ?_⟩
    refine pos_is_wish k hy ?_
    refine ⟨_, Sto.set_same, by show 3 < lim; decide, ?_⟩
    rw [Sto.set_set]
    simp_all_arith [c_k08_told_0]
    have er : (List.map (fun k : Nat => D.int (0 + (k : Int))) (List.range (Int.toNat 4))) = (List.range 4).map fun (k : Nat) => D.int k := rfl
    refine ⟨by decide, ?_⟩
    rw [er]
    refine wLc_map (fun (k : Nat) => D.int k) (fun _ => true) (fun _ => .bl true) (List.range 4) trivial (fun c hc k1 k0 hk1 hk0 => ?_) (by decide) ?_
    · have hc := List.mem_range.mp hc
      have hk1 := hk1 rfl
      simp_all_arith [x_call h2]
      have : c = 0 ∨ c = 1 ∨ c = 2 ∨ c = 3 := by omega
      rcases this with rfl | rfl | rfl | rfl
      · rw [i_obj Sto.set_same]
        refine ⟨0, _, rfl, rfl, by decide, _, rfl, ?_⟩
        rw [e_k08_truth, beq_self_eq_true]
        exact hk1
      · rw [i_obj Sto.set_same]
        refine ⟨1, _, rfl, rfl, by decide, _, rfl, ?_⟩
        rw [e_k08_truth, beq_self_eq_true]
        exact hk1
      · rw [i_obj Sto.set_same]
        refine ⟨2, _, rfl, rfl, by decide, _, rfl, ?_⟩
        rw [e_k08_truth, beq_self_eq_true]
        exact hk1
      · rw [i_obj Sto.set_same]
        refine ⟨3, _, rfl, rfl, by decide, _, rfl, ?_⟩
        rw [e_k08_truth, beq_self_eq_true]
        exact hk1
    · simp_all_arith [wFn]
      exact ⟨[true, true, true, true], rfl, S, Sub.set_new hp, q⟩
/-! ### refused -/
def bRpt : List Rpt := [.txt [66, 111, 97, 114, 100, 40], .fld "high", .txt [44, 32], .fld "wide", .txt [44, 32], .len "bands", .txt [41]]
/-- no board, and how it is shown -/
structure OddX (x : D) (z : List Nat) : Prop where
  ak : ∀ S, Ak S x
  no : ∀ S, isO S "Board" x = false
  sh : ∀ (T : Tab) (S : Sto), T.rp "Board" = some bRpt → rprV T S x = some z
  len : z.length ≤ lim
theorem OddX.of {x : D} (h : OddH x) : OddX x (rprD x) := ⟨h.ak, h.no, fun T S _ => by unfold rprV; rw [if_pos h.sh.1], h.sh.2⟩
def dg (n : Nat) : List Nat := digits (n : Int)
def bShow (h w n : Nat) : List Nat := [66, 111, 97, 114, 100, 40] ++ (dg h ++ ([44, 32] ++ (dg w ++ ([44, 32] ++ (dg n ++ ([41] ++ []))))))
theorem brd_rpr {T : Tab} {S : Sto} {h w : Nat} {bs : List Band} (k : BOk h w bs) (hr : T.rp "Board" = some bRpt) : rprI T S (brd h w bs) = some (bShow h w bs.length) := by
  have h6 := k.h6
  have w6 := k.w6
  have b12 := k.b12
  unfold rprI
  rw [brd_ins]
  dsimp only
  rw [hr]
  dsimp only
  have e1 : rpFld ((bFs h w bs).lookup ("high" : Str)) = some (dg h) := by
    show (if (h : Int).natAbs < 10 ^ 9 then some (digits (h : Int)) else none) = _
    rw [if_pos (by omega)]; rfl
  have e2 : rpFld ((bFs h w bs).lookup ("wide" : Str)) = some (dg w) := by
    show (if (w : Int).natAbs < 10 ^ 9 then some (digits (w : Int)) else none) = _
    rw [if_pos (by omega)]; rfl
  have e3 : rpLen S ((bFs h w bs).lookup ("bands" : Str)) = some (dg bs.length) := by
    show (if (bs.map Band.d).length < 10 ^ 9 then some (digits ((bs.map Band.d).length : Int)) else none) = _
    rw [List.length_map, if_pos (by omega)]; rfl
  show (match rpD S (bFs h w bs) (.txt [66, 111, 97, 114, 100, 40]), rpsD S (bFs h w bs) [.fld "high", .txt [44, 32], .fld "wide", .txt [44, 32], .len "bands", .txt [41]] with | some a, some b => some (a ++ b) | _, _ => none) = _
  have t1 : rpD S (bFs h w bs) (.txt [66, 111, 97, 114, 100, 40]) = some [66, 111, 97, 114, 100, 40] := rfl
  have t2 : rpD S (bFs h w bs) (.txt [44, 32]) = some [44, 32] := rfl
  have t3 : rpD S (bFs h w bs) (.txt [41]) = some [41] := rfl
  have f1 : rpD S (bFs h w bs) (.fld "high") = some (dg h) := e1
  have f2 : rpD S (bFs h w bs) (.fld "wide") = some (dg w) := e2
  have f3 : rpD S (bFs h w bs) (.len "bands") = some (dg bs.length) := e3
  simp only [rpsD, t1, t2, t3, f1, f2, f3]
  rfl
theorem bShow_len {h w n : Nat} (h6 : h ≤ 36) (w6 : w ≤ 36) (n12 : n ≤ 36) : (bShow h w n).length ≤ 1000 := by
  have : ∀ m : Nat, m ≤ 36 → (dg m).length ≤ 20 := by decide +kernel
  have a := this h h6
  have b := this w w6
  have c := this n n12
  unfold bShow
  simp only [List.length_append, List.length_cons, List.length_nil]
  omega
theorem OddX.lst {h w : Nat} {bs : List Band} (k : BOk h w bs) : OddX (.lst [brd h w bs]) (91 :: (bShow h w bs.length ++ [93])) := ⟨fun _ => ak_lst.mpr trivial, fun _ => rfl, fun T S hr => by
  unfold rprV
  have : rprB (.lst [brd h w bs]) = false := rfl
  rw [if_neg (by rw [this]; simp)]
  dsimp only
  rw [brd_rpr k hr]
  rfl, by
  have := bShow_len (h := h) (w := w) (n := bs.length) (by have := k.h6; omega) (by have := k.w6; omega) (by have := k.b12; omega)
  rw [List.length_cons, List.length_append, List.length_singleton]; unfold lim; omega⟩
theorem OddX.tup {h w : Nat} {bs : List Band} (k : BOk h w bs) : OddX (.tup [brd h w bs]) (40 :: (bShow h w bs.length ++ [44, 41])) := ⟨fun _ => ak_tup.mpr trivial, fun _ => rfl, fun T S hr => by
  unfold rprV
  have : rprB (.tup [brd h w bs]) = false := rfl
  rw [if_neg (by rw [this]; simp)]
  dsimp only
  rw [brd_rpr k hr]
  rfl, by
  have := bShow_len (h := h) (w := w) (n := bs.length) (by have := k.h6; omega) (by have := k.w6; omega) (by have := k.b12; omega)
  rw [List.length_cons, List.length_append]; show _ + 2 + 1 ≤ lim; unfold lim; omega⟩
def φ_k08_refused : FSp := fun ds S Q E => match ds with
  | [.int d, x, y] => ∃ (m : Nat) (z : List Nat), d = m ∧ m ≤ 2 ∧ OddX x z ∧ Mat y ∧ Q (tpD [98, 111, 97, 114, 100] z) S
  | _ => False
theorem e_k08_refused {d : Int} {x y : D} {S : Sto} {Q : QV} {E : QX} : φ_k08_refused [.int d, x, y] S Q E = (∃ (m : Nat) (z : List Nat), d = m ∧ m ≤ 2 ∧ OddX x z ∧ Mat y ∧ Q (tpD [98, 111, 97, 114, 100] z) S) := rfl -- phi
theorem odd_pic {x y : D} {z : List Nat} {S : Sto} {Q : QV} {E : QX} (hx : OddX x z) (hy : Mat y) (e : E ⟨"NoBoard", ["board"], [x]⟩ S) : φ_is_picture [x, y] S Q E :=
  ⟨hx.ak S, hy.ak S, szK_ok hy.sz, by rw [hx.no S, if_neg (by simp)]; exact e⟩
theorem odd_wish {x y : D} {z : List Nat} {S : Sto} {Q : QV} {E : QX} (hx : OddX x z) (hy : Mat y) (e : E ⟨"NoBoard", ["board"], [x]⟩ S) : φ_is_wish [x, y] S Q E :=
  ⟨hx.ak S, ⟨hy.ak S, szK_ok hy.sz, hy.wk S⟩, by rw [hx.no S, if_neg (by simp)]; exact e⟩
theorem ok_k08_refused (f1' : T.Fn "is_picture" φ_is_picture) (f2' : T.Fn "is_wish" φ_is_wish) (k0 : T.Kw "is_wish" 0 ["thing", "board"] [.inl 1, .inl 0] φ_is_wish) (h0 : T.Fn f0 φ_sort1) (hh : T.hot f0 = true) (x0 : T.Xs "NoBoard" (rowX 14 1)) (c0 : T.Xc "NoBoard" (some "board") false) (hr : T.rp "Board" = some [.txt [66, 111, 97, 114, 100, 40], .fld "high", .txt [44, 32], .fld "wide", .txt [44, 32], .len "bands", .txt [41]]) : Ok T n_k08_refused (b_k08_refused f0) φ_k08_refused := by
  intro ds S Q E hφ
  match ds, hφ with
  | [.int d, x, y], hh' =>
    obtain ⟨m, z, rfl, hm, hx, hy, q⟩ := hh'
    have x0CoatError : T.xs "NoBoard" "CoatError" = some false := x0 ("CoatError", false) (by decide +kernel)
    have x0StandError : T.xs "NoBoard" "StandError" = some true := x0 ("StandError", true) (by decide +kernel)
    have x0RoomError : T.xs "NoBoard" "RoomError" = some false := x0 ("RoomError", false) (by decide +kernel)
    have x0NoBoard : T.xs "NoBoard" "NoBoard" = some true := x0 ("NoBoard", true) (by decide +kernel)
    have hB : ∀ N : Nd, N.rt = (fun d S1 => ∃ S2, Sub S2 S1 ∧ Q d S2) → wHs T (Hs.cons ["CoatError", "StandError", "RoomError"] (some 3) (.cons (.ret (.ite (.isx (.loc 3) "NoBoard") (.tup (.cons (.hcall f0 (.cons (.loc 3) .nil)) (.cons (.rpr (.xattr (.loc 3) "board")) .nil))) (.tup (.cons (.hcall f0 (.cons (.loc 3) .nil)) (.cons (.const (.str [])) .nil))))) .nil) Hs.nil) (fun _ e S1 => ∃ S2, Sub S2 S1 ∧ E e S2) [some (.int m), some x, some y, none] ⟨"NoBoard", ["board"], [x]⟩ S N := by
      intro N hN
      unfold wHs
      refine ⟨true, by simp only [xsAny, x0CoatError, x0StandError, x0RoomError]; rfl, ?_⟩
      rw [if_pos rfl]
      simp_all_arith [x_hcall hh h0, x_isx, x_rpr, hN]
      refine ⟨⟨_, _, x0NoBoard⟩, _, _, _, _, rfl, x0NoBoard, ?_⟩
      simp_all_arith [x_hcall hh h0, x_rpr, hN]
      rw [e_sort1]
      refine ⟨_, _, _, _, rfl, .inl ⟨rfl, rfl⟩, ?_⟩
      simp_all_arith [x_rpr, hN]
      refine ⟨_, _, _, _, rfl, rfl, c0, ?_⟩
      exact ⟨z, hx.sh T S hr, hx.len, S, Sub.refl S, q⟩
    simp_all_arith [b_k08_refused, n_k08_refused, t_tri, x_call f1', x_callk0 k0, x_call f2']
    refine ⟨fun C hC => ?_, ?_⟩
    · have hC : C ∈ (["CoatError", "StandError", "RoomError"] : List Str) := hC
      simp only [List.mem_cons, List.not_mem_nil, or_false] at hC
      rcases hC with rfl | rfl | rfl
      · exact ⟨_, _, x0CoatError⟩
      · exact ⟨_, _, x0StandError⟩
      · exact ⟨_, _, x0RoomError⟩
    by_cases m0 : m = 0
    · rw [decide_eq_true (by omega), if_pos rfl]
      exact odd_pic hx hy (hB _ rfl)
    · rw [decide_eq_false (by omega), if_neg (by simp)]
      by_cases m1 : m = 1
      · rw [decide_eq_true (by omega), if_pos rfl]
        exact odd_wish hx hy (hB _ rfl)
      · rw [decide_eq_false (by omega), if_neg (by simp)]
        exact odd_wish hx hy (hB _ rfl)
end
--lvl3
/-! K08c: the law. -/
def nonesL (x : D) (h w : Nat) (p : List Nat) : List D := [.non, .bl true, .int 0, .str [], .str [98, 111, 97, 114, 100, 32, 49, 32, 49], .tup [], .lst [], .dct [] [], .tup [.int h, .int w, .tup []], .lst [x], .tup [x], .str p]
theorem nonesL_ok {h w : Nat} {bs : List Band} {p : List Nat} (k : BOk h w bs) (hp : letters p) (hl : p.length ≤ 1000) : ∀ x ∈ nonesL (brd h w bs) h w p, ∃ z, OddX x z := by
  intro x hx
  have h6 := k.h6
  have w6 := k.w6
  simp only [nonesL, List.mem_cons, List.not_mem_nil, or_false] at hx
  rcases hx with rfl | rfl | rfl | rfl | rfl | rfl | rfl | rfl | rfl | rfl | rfl | rfl
  · exact ⟨_, .of (housesL_ok _ (by simp [housesL]))⟩
  · exact ⟨_, .of (housesL_ok _ (by simp [housesL]))⟩
  · exact ⟨_, .of (housesL_ok _ (by simp [housesL]))⟩
  · exact ⟨_, .of (housesL_ok _ (by simp [housesL]))⟩
  · exact ⟨_, .of ⟨fun _ => ak_str.mpr trivial, fun _ => rfl, shB_of rfl (by decide) (by decide)⟩⟩
  · exact ⟨_, .of (housesL_ok _ (by simp [housesL]))⟩
  · exact ⟨_, .of (housesL_ok _ (by simp [housesL]))⟩
  · exact ⟨_, .of (housesL_ok _ (by simp [housesL]))⟩
  · refine ⟨_, .of ⟨fun _ => ak_tup.mpr trivial, fun _ => rfl, shB_of ?_ ?_ ?_⟩⟩
    · have key : ∀ a b : Fin 7, shw (.tup [.int (a.val : Int), .int (b.val : Int), .tup []]) = true := by decide +kernel
      exact key ⟨h, by omega⟩ ⟨w, by omega⟩
    · have key : ∀ a b : Fin 7, depth (.tup [.int (a.val : Int), .int (b.val : Int), .tup []]) ≤ 60 := by decide +kernel
      exact key ⟨h, by omega⟩ ⟨w, by omega⟩
    · have key : ∀ a b : Fin 7, rsz (.tup [.int (a.val : Int), .int (b.val : Int), .tup []]) ≤ lim := by decide +kernel
      exact key ⟨h, by omega⟩ ⟨w, by omega⟩
  · exact ⟨_, .lst k⟩
  · exact ⟨_, .tup k⟩
  · exact ⟨_, .of ⟨fun _ => ak_str.mpr trivial, fun _ => rfl, shB_str (sgn_let hp) hl⟩⟩
theorem tp_plain (w z : List Nat) : plain (.lst [tpD w z, tpD w z, tpD w z]) = true ∧ depth (.lst [tpD w z, tpD w z, tpD w z]) ≤ 64 := by
  unfold tpD
  simp [plain, plains, depth, depths]
section
variable {T : Tab} {f0 f1 f2 f3 f4 f5 f6 f7 f8 f9 : Str}
theorem ok_law08 (h0 : T.Fn f0 φ_purse) (h1 : T.Fn f1 φ_cell) (h2 : T.Fn f2 φ_pick) (h3 : T.Fn f3 φ_k08_look) (h4 : T.Fn f4 φ_k08_part) (h5 : T.Fn f5 φ_k08_blook) (h6 : T.Fn f6 φ_k08_bdream) (h7 : T.Fn f7 φ_k08_odd) (h8 : T.Fn f8 φ_k08_told) (h9 : T.Fn f9 φ_k08_refused) (kB : T.Mk "Board" [.tup []] φ_Board_init) (hr : T.rp "Board" = some [.txt [66, 111, 97, 114, 100, 40], .fld "high", .txt [44, 32], .fld "wide", .txt [44, 32], .len "bands", .txt [41]]) : Ok T n_law08 (b_law08 f0 f1 f2 f3 f4 f5 f6 f7 f8 f9) φ_law := by
  intro ds S Q E hφ
  match ds, hφ with
  | [x], hh =>
    obtain ⟨ns, rfl, hns, q⟩ := hh
    simp_all_arith [b_law08, n_law08, List.length_map]
    obtain ⟨n, en, hr'⟩ : ∃ n : Int, (if (if 8 < (ns.length : Int) then 8 else (ns.length : Int)) > 2 then (if 8 < (ns.length : Int) then 8 else (ns.length : Int)) else 2) = n ∧ 0 ≤ n ∧ n ≤ 100 := ⟨_, rfl, by split <;> split <;> omega, by split <;> split <;> omega⟩
    rw [en]
    refine ⟨by omega, ?_⟩
    refine wFor_inv (fun i ρ S' => ∃ x1 x2 x3 x4 x5 x6 x7 x8 x9 x10 x11 x12 x13, ρ = [some (.lsk (ns.map .int)), x1, x2, x3, x4, x5, x6, x7, x8, x9, x10, x11, x12, x13, none, none]) 0 ⟨_, _, _, _, _, _, _, _, _, _, _, _, _, rfl⟩ ?_ ?_
    · rintro j d ρ S1 hj ⟨x1, x2, x3, x4, x5, x6, x7, x8, x9, x10, x11, x12, x13, rfl⟩
      have hjl : j < n.toNat := by
        have := (List.getElem?_eq_some_iff.mp hj).1
        simpa using this
      rw [List.getElem?_map, List.getElem?_range hjl] at hj
      cases hj
      refine ⟨trivial, fun nx hnx => ?_⟩
      simp_all_arith [x_call h0, x_call h1, e_cell]
      refine ⟨ns, rfl, hns, by omega, by omega, fun z b S2 hb hps _ => ?_⟩
      simp_all_arith [c_law08_8, x_call h2, e_pick]
      refine ⟨hps, by decide, by decide, fun t1 S3 ht1 hK1 => ?_⟩
      refine ⟨hK1.1, by decide, by decide, fun t2 S4 ht2 hK2 => ?_⟩
      refine ⟨hK2.1, by decide, by decide, fun t3 S5 ht3 hK3 => ?_⟩
      simp_all_arith [c_law08_7, x_call h2, e_pick]
      refine ⟨hK3.1, by decide, by decide, fun t4 S6 ht4 hK4 => ?_⟩
      refine ⟨hK4.1, by decide, by decide, fun t5 S7 ht5 hK5 => ?_⟩
      simp_all_arith [c_law08_6, x_make kB]
      have eh : (1 + (t4 : Int)) = ((1 + t4 : Nat) : Int) := by simp
      have ew : (1 + (t5 : Int)) = ((1 + t5 : Nat) : Int) := by simp
      rw [eh, ew]
      generalize hh : 1 + t4 = h
      generalize hw : 1 + t5 = w
      have k : BOk h w [] := ⟨by omega, by omega, by omega, by omega, by decide, (fun b hb => nomatch hb), List.nodup_nil⟩
      have n36 := k.n36
      have hpos : 1 ≤ h * w := Nat.mul_pos k.h0 k.w0
      have e : ((h : Int) * (w : Int)) = ((h * w : Nat) : Int) := by simp
      refine ⟨.inl (by constructor <;> omega), fun bo hbo => brd_mk k hbo ?_⟩
      rw [e]
      simp_all_arith [c_law08_5, x_call h3, x_call h4]
      rw [e_k08_look]
      refine ⟨hK5.1, h * w, rfl, n36, fun p S8 hp hpl hK6 => ?_⟩
      simp_all_arith [wFn]
      refine ⟨by constructor <;> omega, ?_⟩
      have hlr : ((List.range ((h * w : Nat) : Int).toNat).map fun (k : Nat) => D.int (0 + k)).length = h * w := by rw [List.length_map, List.length_range, Int.toNat_natCast]
      refine wLc_draw (fun _ (s : List Nat) => letters s ∧ s.Pairwise (· < ·)) (fun s => D.str s) hK6.1 (by rw [hlr]; unfold lim; omega) (fun j d S' hj hK => ⟨trivial, fun k1 k0 hk => ?_⟩) ?_
      · simp_all_arith [x_call h4]
        rw [e_k08_part]
        exact ⟨hK.1, fun s S9 hs hs2 hK9 => hk s S9 ⟨hs, hs2⟩ (hK.trans hK9)⟩
      rintro ws S9 hwl hP hK7
      rw [hlr] at hwl
      have hw' : WOk (h * w) ws := ⟨hwl, fun s hs => by
        obtain ⟨i, hi, rfl⟩ := List.getElem_of_mem hs
        exact hP i _ (List.getElem?_eq_getElem hi)⟩
      refine ⟨trivial, ?_⟩
      simp_all_arith [wFn]
      simp_all_arith [c_law08_4, x_call h5, x_call h6, x_call h7]
      rw [e_k08_blook]
      refine ⟨hK7.1, by omega, by omega, fun y1 S10 hy1 hK8 => ?_⟩
      rw [e_k08_bdream]
      refine ⟨hK8.1, h * w, ws, rfl, hw', hpos, n36, fun y2 S11 hy2 hK9 => ?_⟩
      rw [e_k08_odd]
      refine ⟨hK9.1, fun y3 S12 hy3 hK10 => ?_⟩
      simp_all_arith [wFn]
      refine ⟨by unfold lim; omega, ?_⟩
      have mp : Mat (.str p) := mat_str (by omega)
      have mw : Mat (.tup (ws.map D.str)) := mat_tup (by rw [List.length_map]; omega) (mat_wish hw' n36)
      refine wFor_inv (fun i ρ S' => S' = S12 ∧ ∃ x1 x3 x4 x5 b1 b2, ρ = [some (.lsk (ns.map .int)), x1, some (.obj b), x3, x4, x5, some (.lst [.bl b1, .bl b2]), some (.int t3), some (.int h), some (.int w), some (.int ((h * w : Nat) : Int)), some (brd h w []), some (.str p), some (.tup (ws.map D.str)), none, none]) 0 ⟨rfl, _, _, _, _, _, _, rfl⟩ ?_ ?_
      · rintro j d ρ S' hj ⟨rfl, x1, x3, x4, x5, b1, b2, rfl⟩
        have hd : Mat d := by
          have := List.mem_of_getElem? hj
          simp only [List.mem_cons, List.not_mem_nil, or_false] at this
          rcases this with rfl | rfl | rfl | rfl | rfl | rfl
          · exact mp
          · exact mw
          · exact hy1
          · exact hy2
          · exact hy3
          · exact mat_tup (by rw [List.length_map]; omega) mat_signs
        refine ⟨trivial, fun nx2 hnx2 => ?_⟩
        simp_all_arith [x_call h8]
        rw [e_k08_told]
        refine ⟨h, w, [], rfl, k, rfl, hd, ?_⟩
        simp_all_arith [wFn]
        exact hnx2 _ _ ⟨rfl, _, _, _, _, _, _, rfl⟩
      · rintro ρ S' ⟨rfl, x1, x3, x4, x5, b1, b2, rfl⟩
        refine ⟨trivial, ?_⟩
        simp_all_arith [c_law08_3]
        refine dct_e ?_
        have ln : (nonesL (brd h w []) h w p).length = 12 := rfl
        obtain ⟨no, hno, eno⟩ := atI_mem (l := nonesL (brd h w []) h w p) (i := (t3 : Int)) (by omega) (by omega)
        obtain ⟨z9, hod⟩ := nonesL_ok k hp (by omega) no hno
        refine ⟨no, eno, ?_⟩
        simp_all_arith [c_law08_2, x_call h7]
        rw [e_k08_odd]
        refine ⟨hK10.1, fun y4 S13 hy4 hK11 => ?_⟩
        obtain ⟨gv, egv, hgv⟩ : ∃ gv, atI [D.str p, y4] (if b1 = true then 1 else 0) = some gv ∧ Mat gv := by
          cases b1
          · exact ⟨_, rfl, mp⟩
          · exact ⟨_, rfl, hy4⟩
        refine ⟨gv, egv, ?_⟩
        simp_all_arith [c_law08_1]
        refine ⟨by decide, ?_⟩
        have er : (List.map (fun k : Nat => D.int (0 + (k : Int))) (List.range (Int.toNat 3))) = (List.range 3).map fun (k : Nat) => D.int k := rfl
        rw [er]
        refine wLc_map (fun (k : Nat) => D.int k) (fun _ => true) (fun _ => tpD [98, 111, 97, 114, 100] z9) (List.range 3) trivial (fun c hc k1 k0 hk1 hk0 => ?_) (by decide) ?_
        · have hc := List.mem_range.mp hc
          have hk1 := hk1 rfl
          simp_all_arith [x_call h9]
          rw [e_k08_refused]
          exact ⟨c, z9, rfl, by omega, hod, hgv, hk1⟩
        · have e3 : ((List.range 3).filter fun _ => true).map (fun _ => tpD [98, 111, 97, 114, 100] z9) = [tpD [98, 111, 97, 114, 100] z9, tpD [98, 111, 97, 114, 100] z9, tpD [98, 111, 97, 114, 100] z9] := rfl
          rw [e3]
          simp_all_arith [wFn]
          refine ⟨z9, hod.sh T _ hr, hod.len, ?_⟩
          simp_all_arith [wFn]
          refine ⟨_, rfl, by decide, by decide, by show 1 * 3 ≤ lim; decide, ?_⟩
          unfold newL
          rw [if_pos rfl]
          have e4 : (List.replicate (Int.toNat 3) [D.tup [D.str [98, 111, 97, 114, 100], D.str z9]]).flatten = [tpD [98, 111, 97, 114, 100] z9, tpD [98, 111, 97, 114, 100] z9, tpD [98, 111, 97, 114, 100] z9] := rfl
          rw [e4]
          dsimp only
          have pl := tp_plain [98, 111, 97, 114, 100] z9
          rw [c_ne, beq_refl _ pl.1]
          refine ⟨⟨pl.1, pl.1, pl.2, pl.2⟩, _, rfl, ?_⟩
          simp_all_arith [wFn]
          simp_all_arith [c_law08_0, x_call h8]
          obtain ⟨gw, egw, hgw⟩ : ∃ gv, atI [D.str p, .tup (ws.map D.str)] (if b2 = true then 1 else 0) = some gv ∧ Mat gv := by
            cases b2
            · exact ⟨_, rfl, mp⟩
            · exact ⟨_, rfl, mw⟩
          refine ⟨gw, egw, ?_⟩
          rw [e_k08_told]
          refine ⟨h, w, [], rfl, k, rfl, hgw, ?_⟩
          simp_all_arith [wFn]
          exact hnx _ _ ⟨_, _, _, _, _, _, _, _, _, _, _, _, _, rfl⟩
    · rintro ρ S1 ⟨x1, x2, x3, x4, x5, x6, x7, x8, x9, x10, x11, x12, x13, rfl⟩
      refine ⟨trivial, ?_⟩
      simp_all_arith [c_law08_9]
      exact ⟨_, Sub.refl _, q _⟩
end
--lvl3
/-! PS: bands drawn one by one (as in H15). -/
def N_law_purse : List Str := ["_law_own"]
def p_law_purse : List Str := ["_law_own"]
theorem d_law_purse : defOk false N_law_purse p_law_purse b_purse s_law_purse = true := by decide +kernel
def N_law_cell : List Str := ["_law_script", "_law_k", "_law_state", "_law_own"]
def p_law_cell : List Str := ["_law_script", "_law_k"]
theorem d_law_cell : defOk false N_law_cell p_law_cell b_cell s_law_cell = true := by decide +kernel
def N_law_pick : List Str := ["_law_purse_here", "_law_many", "_law_state", "_law_taken"]
def p_law_pick : List Str := ["_law_purse_here", "_law_many"]
theorem d_law_pick : defOk false N_law_pick p_law_pick b_pick s_law_pick = true := by decide +kernel
def N_law_letters : List Str := []
def p_law_letters : List Str := []
theorem d_law_letters : defOk false N_law_letters p_law_letters b_k08_letters s_law_letters = true := by decide +kernel
def N_law_any_look : List Str := ["_law_purse_here", "_law_size", "_law_spot"]
def p_law_any_look : List Str := ["_law_purse_here", "_law_size"]
theorem d_law_any_look : defOk false N_law_any_look p_law_any_look (b_k08_look "_law_letters" "_law_pick") s_law_any_look = true := by decide +kernel
def N_law_any_part : List Str := ["_law_purse_here", "_law_k"]
def p_law_any_part : List Str := ["_law_purse_here"]
theorem d_law_any_part : defOk false N_law_any_part p_law_any_part (b_k08_part "_law_pick" "_law_letters") s_law_any_part = true := by decide +kernel
def N_law_odd : List Str := ["_law_purse_here", "_law_some"]
def p_law_odd : List Str := ["_law_purse_here"]
theorem d_law_odd : defOk false N_law_odd p_law_odd (b_k08_odd "_law_letters" "_law_pick") s_law_odd = true := by decide +kernel
def N_law_bent_look : List Str := ["_law_purse_here", "_law_look", "_law_sign", "_law_at", "_law_sort_here"]
def p_law_bent_look : List Str := ["_law_purse_here", "_law_look"]
theorem d_law_bent_look : defOk false N_law_bent_look p_law_bent_look (b_k08_blook "_law_pick" "_law_odd") s_law_bent_look = true := by decide +kernel
def N_law_bent_dream : List Str := ["_law_purse_here", "_law_dream", "_law_at", "_law_sort_here"]
def p_law_bent_dream : List Str := ["_law_purse_here", "_law_dream"]
theorem d_law_bent_dream : defOk false N_law_bent_dream p_law_bent_dream (b_k08_bdream "_law_pick" "_law_odd") s_law_bent_dream = true := by decide +kernel
def N_law_is_letters : List Str := ["_law_matter", "_law_sign"]
def p_law_is_letters : List Str := ["_law_matter"]
theorem d_law_is_letters : defOk false N_law_is_letters p_law_is_letters (b_k08_islet "_law_letters") s_law_is_letters = true := by decide +kernel
def N_law_is_look : List Str := ["_law_size", "_law_matter"]
def p_law_is_look : List Str := ["_law_size", "_law_matter"]
theorem d_law_is_look : defOk false N_law_is_look p_law_is_look (b_k08_islook "_law_is_letters") s_law_is_look = true := by decide +kernel
def N_law_is_dream : List Str := ["_law_size", "_law_matter", "_law_part"]
def p_law_is_dream : List Str := ["_law_size", "_law_matter"]
theorem d_law_is_dream : defOk false N_law_is_dream p_law_is_dream (b_k08_isdream "_law_is_letters") s_law_is_dream = true := by decide +kernel
def N_check_board : List Str := ["board"]
def p_check_board : List Str := ["board"]
theorem d_check_board : defOk false N_check_board p_check_board b_check_board s_check_board = true := by decide +kernel
def N_are_letters : List Str := ["thing", "most", "sign"]
def p_are_letters : List Str := ["thing", "most"]
theorem d_are_letters : defOk false N_are_letters p_are_letters b_are_letters s_are_letters = true := by decide +kernel
def N_is_colour : List Str := ["thing"]
def p_is_colour : List Str := ["thing"]
theorem d_is_colour : defOk false N_is_colour p_is_colour b_is_colour s_is_colour = true := by decide +kernel
def N_are_colours : List Str := ["thing", "sign"]
def p_are_colours : List Str := ["thing"]
theorem d_are_colours : defOk false N_are_colours p_are_colours b_are_colours s_are_colours = true := by decide +kernel
def N_how_many : List Str := ["board"]
def p_how_many : List Str := ["board"]
theorem d_how_many : defOk false N_how_many p_how_many b_how_many s_how_many = true := by decide +kernel
def N_is_picture : List Str := ["board", "thing"]
def p_is_picture : List Str := ["board", "thing"]
theorem d_is_picture : defOk false N_is_picture p_is_picture b_is_picture s_is_picture = true := by decide +kernel
def N_is_rising : List Str := ["row", "one", "other"]
def p_is_rising : List Str := ["row"]
theorem d_is_rising : defOk false N_is_rising p_is_rising b_is_rising s_is_rising = true := by decide +kernel
def N_is_part : List Str := ["thing"]
def p_is_part : List Str := ["thing"]
theorem d_is_part : defOk false N_is_part p_is_part b_is_part s_is_part = true := by decide +kernel
def N_is_wish : List Str := ["board", "thing", "part"]
def p_is_wish : List Str := ["board", "thing"]
theorem d_is_wish : defOk false N_is_wish p_is_wish b_is_wish s_is_wish = true := by decide +kernel
def N_law_truth : List Str := ["_law_told", "_law_due"]
def p_law_truth : List Str := ["_law_told", "_law_due"]
theorem d_law_truth : defOk false N_law_truth p_law_truth b_k08_truth s_law_truth = true := by decide +kernel
def N_law_told_right : List Str := ["_law_house", "_law_size", "_law_matter", "_law_due", "_law_told", "_law_k"]
def p_law_told_right : List Str := ["_law_house", "_law_size", "_law_matter"]
theorem d_law_told_right : defOk false N_law_told_right p_law_told_right (b_k08_told "_law_is_look" "_law_is_dream" "_law_truth") s_law_told_right = true := by decide +kernel
def N_law_sort : List Str := ["_law_e", "_law_some", "_law_families", "_law_roots", "_law_at", "_law_told", "_law_k"]
def p_law_sort : List Str := ["_law_e"]
theorem d_law_sort : defOk true N_law_sort p_law_sort b_sort1 s_law_sort = true := by decide +kernel
def N_law_refused : List Str := ["_law_door", "_law_none", "_law_matter", "_law_e"]
def p_law_refused : List Str := ["_law_door", "_law_none", "_law_matter"]
theorem d_law_refused : defOk false N_law_refused p_law_refused (b_k08_refused "_law_sort") s_law_refused = true := by decide +kernel
def N_is_whole : List Str := ["thing"]
def p_is_whole : List Str := ["thing"]
theorem d_is_whole : defOk false N_is_whole p_is_whole b_is_whole s_is_whole = true := by decide +kernel
def N_is_within : List Str := ["thing", "low", "high"]
def p_is_within : List Str := ["thing", "low", "high"]
theorem d_is_within : defOk false N_is_within p_is_within b_is_within s_is_within = true := by decide +kernel
def N_is_name : List Str := ["thing"]
def p_is_name : List Str := ["thing"]
theorem d_is_name : defOk false N_is_name p_is_name b_is_name s_is_name = true := by decide +kernel
def N_are_cells : List Str := ["thing", "many", "cell"]
def p_are_cells : List Str := ["thing", "many"]
theorem d_are_cells : defOk false N_are_cells p_are_cells b_are_cells s_are_cells = true := by decide +kernel
def N_are_pots : List Str := ["thing"]
def p_are_pots : List Str := ["thing"]
theorem d_are_pots : defOk false N_are_pots p_are_pots b_are_pots s_are_pots = true := by decide +kernel
def N_is_band : List Str := ["thing", "many", "name", "cells", "pots", "cost"]
def p_is_band : List Str := ["thing", "many"]
theorem d_is_band : defOk false N_is_band p_is_band b_is_band s_is_band = true := by decide +kernel
def N_check_bands : List Str := ["bands", "many", "known", "number", "band"]
def p_check_bands : List Str := ["bands", "many"]
theorem d_check_bands : defOk false N_check_bands p_check_bands b_check_bands s_check_bands = true := by decide +kernel
def N_Board___init__ : List Str := ["self", "high", "wide", "bands"]
def p_Board___init__ : List Str := ["self", "high", "wide", "bands"]
theorem d_Board___init__ : defOk false N_Board___init__ p_Board___init__ b_Board_init s_Board___init__ = true := by decide +kernel
def N_law : List Str := ["_law_script", "_law_k", "_law_purse_here", "_law_matter", "_law_none", "_law_given", "_law_bent", "_law_spoil", "_law_tall", "_law_broad", "_law_size", "_law_house", "_law_look", "_law_dream", "_law_door", "_law_spot"]
def p_law : List Str := ["_law_script"]
theorem d_law : defOk false N_law p_law (b_law08 "_law_purse" "_law_cell" "_law_pick" "_law_any_look" "_law_any_part" "_law_bent_look" "_law_bent_dream" "_law_odd" "_law_told_right" "_law_refused") s_law = true := by decide +kernel
theorem ba_law_purse : BindAll "_law_purse" "_law_purse" s_law_purse p_law_purse := fun _ _ _ _ _ _ us hl => match us, hl with | [_], _ => rfl
theorem ba_law_cell : BindAll "_law_cell" "_law_cell" s_law_cell p_law_cell := fun _ _ _ _ _ _ us hl => match us, hl with | [_, _], _ => rfl
theorem ba_law_pick : BindAll "_law_pick" "_law_pick" s_law_pick p_law_pick := fun _ _ _ _ _ _ us hl => match us, hl with | [_, _], _ => rfl
theorem ba_law_letters : BindAll "_law_letters" "_law_letters" s_law_letters p_law_letters := fun _ _ _ _ _ _ us hl => match us, hl with | [], _ => rfl
theorem ba_law_any_look : BindAll "_law_any_look" "_law_any_look" s_law_any_look p_law_any_look := fun _ _ _ _ _ _ us hl => match us, hl with | [_, _], _ => rfl
theorem ba_law_any_part : BindAll "_law_any_part" "_law_any_part" s_law_any_part p_law_any_part := fun _ _ _ _ _ _ us hl => match us, hl with | [_], _ => rfl
theorem ba_law_odd : BindAll "_law_odd" "_law_odd" s_law_odd p_law_odd := fun _ _ _ _ _ _ us hl => match us, hl with | [_], _ => rfl
theorem ba_law_bent_look : BindAll "_law_bent_look" "_law_bent_look" s_law_bent_look p_law_bent_look := fun _ _ _ _ _ _ us hl => match us, hl with | [_, _], _ => rfl
theorem ba_law_bent_dream : BindAll "_law_bent_dream" "_law_bent_dream" s_law_bent_dream p_law_bent_dream := fun _ _ _ _ _ _ us hl => match us, hl with | [_, _], _ => rfl
theorem ba_law_is_letters : BindAll "_law_is_letters" "_law_is_letters" s_law_is_letters p_law_is_letters := fun _ _ _ _ _ _ us hl => match us, hl with | [_], _ => rfl
theorem ba_law_is_look : BindAll "_law_is_look" "_law_is_look" s_law_is_look p_law_is_look := fun _ _ _ _ _ _ us hl => match us, hl with | [_, _], _ => rfl
theorem ba_law_is_dream : BindAll "_law_is_dream" "_law_is_dream" s_law_is_dream p_law_is_dream := fun _ _ _ _ _ _ us hl => match us, hl with | [_, _], _ => rfl
theorem ba_check_board : BindAll "check_board" "check_board" s_check_board p_check_board := fun _ _ _ _ _ _ us hl => match us, hl with | [_], _ => rfl
theorem ba_are_letters : BindAll "are_letters" "are_letters" s_are_letters p_are_letters := fun _ _ _ _ _ _ us hl => match us, hl with | [_, _], _ => rfl
theorem ba_is_colour : BindAll "is_colour" "is_colour" s_is_colour p_is_colour := fun _ _ _ _ _ _ us hl => match us, hl with | [_], _ => rfl
theorem ba_are_colours : BindAll "are_colours" "are_colours" s_are_colours p_are_colours := fun _ _ _ _ _ _ us hl => match us, hl with | [_], _ => rfl
theorem ba_how_many : BindAll "how_many" "how_many" s_how_many p_how_many := fun _ _ _ _ _ _ us hl => match us, hl with | [_], _ => rfl
theorem ba_is_picture : BindAll "is_picture" "is_picture" s_is_picture p_is_picture := fun _ _ _ _ _ _ us hl => match us, hl with | [_, _], _ => rfl
theorem ba_is_rising : BindAll "is_rising" "is_rising" s_is_rising p_is_rising := fun _ _ _ _ _ _ us hl => match us, hl with | [_], _ => rfl
theorem ba_is_part : BindAll "is_part" "is_part" s_is_part p_is_part := fun _ _ _ _ _ _ us hl => match us, hl with | [_], _ => rfl
theorem ba_is_wish : BindAll "is_wish" "is_wish" s_is_wish p_is_wish := fun _ _ _ _ _ _ us hl => match us, hl with | [_, _], _ => rfl
theorem ba_law_truth : BindAll "_law_truth" "_law_truth" s_law_truth p_law_truth := fun _ _ _ _ _ _ us hl => match us, hl with | [_, _], _ => rfl
theorem ba_law_told_right : BindAll "_law_told_right" "_law_told_right" s_law_told_right p_law_told_right := fun _ _ _ _ _ _ us hl => match us, hl with | [_, _, _], _ => rfl
theorem ba_law_sort : BindAll "_law_sort" "_law_sort" s_law_sort p_law_sort := fun _ _ _ _ _ _ us hl => match us, hl with | [_], _ => rfl
theorem ba_law_refused : BindAll "_law_refused" "_law_refused" s_law_refused p_law_refused := fun _ _ _ _ _ _ us hl => match us, hl with | [_, _, _], _ => rfl
theorem ba_is_whole : BindAll "is_whole" "is_whole" s_is_whole p_is_whole := fun _ _ _ _ _ _ us hl => match us, hl with | [_], _ => rfl
theorem ba_is_within : BindAll "is_within" "is_within" s_is_within p_is_within := fun _ _ _ _ _ _ us hl => match us, hl with | [_, _, _], _ => rfl
theorem ba_is_name : BindAll "is_name" "is_name" s_is_name p_is_name := fun _ _ _ _ _ _ us hl => match us, hl with | [_], _ => rfl
theorem ba_are_cells : BindAll "are_cells" "are_cells" s_are_cells p_are_cells := fun _ _ _ _ _ _ us hl => match us, hl with | [_, _], _ => rfl
theorem ba_are_pots : BindAll "are_pots" "are_pots" s_are_pots p_are_pots := fun _ _ _ _ _ _ us hl => match us, hl with | [_], _ => rfl
theorem ba_is_band : BindAll "is_band" "is_band" s_is_band p_is_band := fun _ _ _ _ _ _ us hl => match us, hl with | [_, _], _ => rfl
theorem ba_check_bands : BindAll "check_bands" "check_bands" s_check_bands p_check_bands := fun _ _ _ _ _ _ us hl => match us, hl with | [_, _], _ => rfl
theorem ba_law : BindAll "law" "law" s_law p_law := fun _ _ _ _ _ _ us hl => match us, hl with | [_], _ => rfl
theorem dr_Board : rpDef "self" [.txt [66, 111, 97, 114, 100, 40], .fld "high", .txt [44, 32], .fld "wide", .txt [44, 32], .len "bands", .txt [41]] sr_Board = true := by decide +kernel
theorem br_Board : BindAll "__repr__" "Board.__repr__" sr_Board ["self"] := fun _ _ _ _ _ _ us hl => match us, hl with | [_], _ => rfl
theorem ix_NoBoard : iniB "StandError" (some "board") false sx_NoBoard = true := by decide +kernel
theorem bx_NoBoard : BindAll "__init__" "NoBoard.__init__" sx_NoBoard (iniN (some "board")) := fun _ _ _ _ _ _ us hl => match us, hl with | [_, _], _ => rfl
theorem ix_NoSize : iniB "CoatError" (some "part") true sx_NoSize = true := by decide +kernel
theorem bx_NoSize : BindAll "__init__" "NoSize.__init__" sx_NoSize (iniN (some "part")) := fun _ _ _ _ _ _ us hl => match us, hl with | [_, _], _ => rfl
theorem ix_NoBands : iniB "CoatError" (some "number") false sx_NoBands = true := by decide +kernel
theorem bx_NoBands : BindAll "__init__" "NoBands.__init__" sx_NoBands (iniN (some "number")) := fun _ _ _ _ _ _ us hl => match us, hl with | [_, _], _ => rfl
theorem bk_0 : BindKw "is_picture" "is_picture" s_is_picture p_is_picture 0 ["thing", "board"] [1, 0] := fun _ _ _ _ _ _ us ws hu hw => match us, hu, ws, hw with | [], _, [_, _], _ => rfl
theorem bk_1 : BindKw "is_wish" "is_wish" s_is_wish p_is_wish 0 ["thing", "board"] [1, 0] := fun _ _ _ _ _ _ us ws hu hw => match us, hu, ws, hw with | [], _, [_, _], _ => rfl
def bse : Base where
  con := [("LETTERS", (.str abc)), ("MOST_SIDE", (.int 6)), ("MOST_BANDS", (.int 12)), ("MOST_COST", (.int 9)), ("MOST_NAME", (.int 6)), ("MOST_POTS", (.int 6))]
  flds := [("Board", ["high", "wide", "bands"])]
  dfs := [("Board", [[.tup []]])]
  kw := [(("is_picture", 0, ["thing", "board"]), [.inl 1, .inl 0]), (("is_wish", 0, ["thing", "board"]), [.inl 1, .inl 0])]
  hot := ["_law_sort"]
  xc := [("NoBoard", ((some "board"), false)), ("NoSize", ((some "part"), true)), ("NoBands", ((some "number"), false))]
  spc := []
  rp := [("Board", [.txt [66, 111, 97, 114, 100, 40], .fld "high", .txt [44, 32], .fld "wide", .txt [44, 32], .len "bands", .txt [41]])]
  gd := []
  xs := xsOf [("NoBoard", (rowX 14 1)), ("NoPicture", (rowX 3 0)), ("NoWish", (rowX 4 0))]
theorem hl_law_purse : ∀ ds S Q E, φ_purse ds S Q E → ds.length = p_law_purse.length := by
  intro ds S Q E h
  unfold φ_purse at h
  split at h <;> first | rfl | exact h.elim
theorem hl_law_cell : ∀ ds S Q E, φ_cell ds S Q E → ds.length = p_law_cell.length := by
  intro ds S Q E h
  unfold φ_cell at h
  split at h <;> first | rfl | exact h.elim
theorem hl_law_pick : ∀ ds S Q E, φ_pick ds S Q E → ds.length = p_law_pick.length := by
  intro ds S Q E h
  unfold φ_pick at h
  split at h <;> first | rfl | exact h.elim
theorem hl_law_letters : ∀ ds S Q E, φ_k08_letters ds S Q E → ds.length = p_law_letters.length := by
  intro ds S Q E h
  unfold φ_k08_letters at h
  split at h <;> first | rfl | exact h.elim
theorem hl_law_any_look : ∀ ds S Q E, φ_k08_look ds S Q E → ds.length = p_law_any_look.length := by
  intro ds S Q E h
  unfold φ_k08_look at h
  split at h <;> first | rfl | exact h.elim
theorem hl_law_any_part : ∀ ds S Q E, φ_k08_part ds S Q E → ds.length = p_law_any_part.length := by
  intro ds S Q E h
  unfold φ_k08_part at h
  split at h <;> first | rfl | exact h.elim
theorem hl_law_odd : ∀ ds S Q E, φ_k08_odd ds S Q E → ds.length = p_law_odd.length := by
  intro ds S Q E h
  unfold φ_k08_odd at h
  split at h <;> first | rfl | exact h.elim
theorem hl_law_bent_look : ∀ ds S Q E, φ_k08_blook ds S Q E → ds.length = p_law_bent_look.length := by
  intro ds S Q E h
  unfold φ_k08_blook at h
  split at h <;> first | rfl | exact h.elim
theorem hl_law_bent_dream : ∀ ds S Q E, φ_k08_bdream ds S Q E → ds.length = p_law_bent_dream.length := by
  intro ds S Q E h
  unfold φ_k08_bdream at h
  split at h <;> first | rfl | exact h.elim
theorem hl_law_is_letters : ∀ ds S Q E, φ_k08_islet ds S Q E → ds.length = p_law_is_letters.length := by
  intro ds S Q E h
  unfold φ_k08_islet at h
  split at h <;> first | rfl | exact h.elim
theorem hl_law_is_look : ∀ ds S Q E, φ_k08_islook ds S Q E → ds.length = p_law_is_look.length := by
  intro ds S Q E h
  unfold φ_k08_islook at h
  split at h <;> first | rfl | exact h.elim
theorem hl_law_is_dream : ∀ ds S Q E, φ_k08_isdream ds S Q E → ds.length = p_law_is_dream.length := by
  intro ds S Q E h
  unfold φ_k08_isdream at h
  split at h <;> first | rfl | exact h.elim
theorem hl_check_board : ∀ ds S Q E, φ_check_board ds S Q E → ds.length = p_check_board.length := by
  intro ds S Q E h
  unfold φ_check_board at h
  split at h <;> first | rfl | exact h.elim
theorem hl_are_letters : ∀ ds S Q E, φ_are_letters ds S Q E → ds.length = p_are_letters.length := by
  intro ds S Q E h
  unfold φ_are_letters at h
  split at h <;> first | rfl | exact h.elim
theorem hl_is_colour : ∀ ds S Q E, (φ_lett 1) ds S Q E → ds.length = p_is_colour.length := by
  intro ds S Q E h
  unfold φ_lett at h
  split at h <;> first | rfl | exact h.elim
theorem hl_are_colours : ∀ ds S Q E, φ_are_colours ds S Q E → ds.length = p_are_colours.length := by
  intro ds S Q E h
  unfold φ_are_colours at h
  split at h <;> first | rfl | exact h.elim
theorem hl_how_many : ∀ ds S Q E, φ_how_many ds S Q E → ds.length = p_how_many.length := by
  intro ds S Q E h
  unfold φ_how_many at h
  split at h <;> first | rfl | exact h.elim
theorem hl_is_picture : ∀ ds S Q E, φ_is_picture ds S Q E → ds.length = p_is_picture.length := by
  intro ds S Q E h
  unfold φ_is_picture at h
  split at h <;> first | rfl | exact h.elim
theorem hl_is_rising : ∀ ds S Q E, φ_is_rising ds S Q E → ds.length = p_is_rising.length := by
  intro ds S Q E h
  unfold φ_is_rising at h
  split at h <;> first | rfl | exact h.elim
theorem hl_is_part : ∀ ds S Q E, φ_is_part ds S Q E → ds.length = p_is_part.length := by
  intro ds S Q E h
  unfold φ_is_part at h
  split at h <;> first | rfl | exact h.elim
theorem hl_is_wish : ∀ ds S Q E, φ_is_wish ds S Q E → ds.length = p_is_wish.length := by
  intro ds S Q E h
  unfold φ_is_wish at h
  split at h <;> first | rfl | exact h.elim
theorem hl_law_truth : ∀ ds S Q E, φ_k08_truth ds S Q E → ds.length = p_law_truth.length := by
  intro ds S Q E h
  unfold φ_k08_truth at h
  split at h <;> first | rfl | exact h.elim
theorem hl_law_told_right : ∀ ds S Q E, φ_k08_told ds S Q E → ds.length = p_law_told_right.length := by
  intro ds S Q E h
  unfold φ_k08_told at h
  split at h <;> first | rfl | exact h.elim
theorem hl_law_sort : ∀ ds S Q E, φ_sort1 ds S Q E → ds.length = p_law_sort.length := by
  intro ds S Q E h
  unfold φ_sort1 at h
  split at h <;> first | rfl | exact h.elim
theorem hl_law_refused : ∀ ds S Q E, φ_k08_refused ds S Q E → ds.length = p_law_refused.length := by
  intro ds S Q E h
  unfold φ_k08_refused at h
  split at h <;> first | rfl | exact h.elim
theorem hl_is_whole : ∀ ds S Q E, φ_is_whole ds S Q E → ds.length = p_is_whole.length := by
  intro ds S Q E h
  unfold φ_is_whole at h
  split at h <;> first | rfl | exact h.elim
theorem hl_is_within : ∀ ds S Q E, φ_is_within ds S Q E → ds.length = p_is_within.length := by
  intro ds S Q E h
  unfold φ_is_within at h
  split at h <;> first | rfl | exact h.elim
theorem hl_is_name : ∀ ds S Q E, (φ_lett 6) ds S Q E → ds.length = p_is_name.length := by
  intro ds S Q E h
  unfold φ_lett at h
  split at h <;> first | rfl | exact h.elim
theorem hl_are_cells : ∀ ds S Q E, φ_are_cells ds S Q E → ds.length = p_are_cells.length := by
  intro ds S Q E h
  unfold φ_are_cells at h
  split at h <;> first | rfl | exact h.elim
theorem hl_are_pots : ∀ ds S Q E, φ_are_pots ds S Q E → ds.length = p_are_pots.length := by
  intro ds S Q E h
  unfold φ_are_pots at h
  split at h <;> first | rfl | exact h.elim
theorem hl_is_band : ∀ ds S Q E, φ_is_band ds S Q E → ds.length = p_is_band.length := by
  intro ds S Q E h
  unfold φ_is_band at h
  split at h <;> first | rfl | exact h.elim
theorem hl_check_bands : ∀ ds S Q E, φ_check_bands ds S Q E → ds.length = p_check_bands.length := by
  intro ds S Q E h
  unfold φ_check_bands at h
  split at h <;> first | rfl | exact h.elim
theorem hl_Board___init__ : ∀ ds S Q E, φ_Board_init ds S Q E → ds.length = p_Board___init__.length := by
  intro ds S Q E h
  unfold φ_Board_init at h
  split at h <;> first | rfl | exact h.elim
theorem hl_law : ∀ ds S Q E, φ_law ds S Q E → ds.length = p_law.length := by
  intro ds S Q E h
  unfold φ_law at h
  split at h <;> first | rfl | exact h.elim
theorem all_j {P : Program} {w : World} {K : PySem.W.Frag} {mg : Str → Option Value} {fa : Addr} (hfa : mg "law" = some (.ref fa)) (bf : BF bse K mg) (F_law_purse : FactFn K mg "_law_purse" s_law_purse) (F_law_cell : FactFn K mg "_law_cell" s_law_cell) (F_law_pick : FactFn K mg "_law_pick" s_law_pick) (F_law_letters : FactFn K mg "_law_letters" s_law_letters) (F_law_any_look : FactFn K mg "_law_any_look" s_law_any_look) (F_law_any_part : FactFn K mg "_law_any_part" s_law_any_part) (F_law_odd : FactFn K mg "_law_odd" s_law_odd) (F_law_bent_look : FactFn K mg "_law_bent_look" s_law_bent_look) (F_law_bent_dream : FactFn K mg "_law_bent_dream" s_law_bent_dream) (F_law_is_letters : FactFn K mg "_law_is_letters" s_law_is_letters) (F_law_is_look : FactFn K mg "_law_is_look" s_law_is_look) (F_law_is_dream : FactFn K mg "_law_is_dream" s_law_is_dream) (F_check_board : FactFn K mg "check_board" s_check_board) (F_are_letters : FactFn K mg "are_letters" s_are_letters) (F_is_colour : FactFn K mg "is_colour" s_is_colour) (F_are_colours : FactFn K mg "are_colours" s_are_colours) (F_how_many : FactFn K mg "how_many" s_how_many) (F_is_picture : FactFn K mg "is_picture" s_is_picture) (F_is_rising : FactFn K mg "is_rising" s_is_rising) (F_is_part : FactFn K mg "is_part" s_is_part) (F_is_wish : FactFn K mg "is_wish" s_is_wish) (F_law_truth : FactFn K mg "_law_truth" s_law_truth) (F_law_told_right : FactFn K mg "_law_told_right" s_law_told_right) (F_law_sort : FactFn K mg "_law_sort" s_law_sort) (F_law_refused : FactFn K mg "_law_refused" s_law_refused) (F_is_whole : FactFn K mg "is_whole" s_is_whole) (F_is_within : FactFn K mg "is_within" s_is_within) (F_is_name : FactFn K mg "is_name" s_is_name) (F_are_cells : FactFn K mg "are_cells" s_are_cells) (F_are_pots : FactFn K mg "are_pots" s_are_pots) (F_is_band : FactFn K mg "is_band" s_is_band) (F_check_bands : FactFn K mg "check_bands" s_check_bands) (F_Board___init__ : FactMeD K mg "Board" ini "Board.__init__" s_Board___init__) (F_law : FactFn K mg "law" s_law) (M_Board : ∀ c, mg "Board" = some (.ref c) → PySem.W.makesIn K c = true ∧ PySem.W.keepIn K (.ref c) = true) (X_NoBoard : FactX K mg "NoBoard" (some "board") false) (X_NoSize : FactX K mg "NoSize" (some "part") true) (X_NoBands : FactX K mg "NoBands" (some "number") false) :
    ∃ fd : FuncData, (∀ (s : Shared) (v : Value), BindsTo s fd ⟨[v], []⟩ [("_law_script", v)]) ∧ ∀ base : Heap, FnG false P w K mg base (L2N.CX P w) 16 fa fd ["_law_script"] (spOf K mg φ_law) := by
  obtain ⟨a_law_purse, fd_law_purse, m_law_purse, F_law_purse⟩ := F_law_purse
  obtain ⟨a_law_cell, fd_law_cell, m_law_cell, F_law_cell⟩ := F_law_cell
  obtain ⟨a_law_pick, fd_law_pick, m_law_pick, F_law_pick⟩ := F_law_pick
  obtain ⟨a_law_letters, fd_law_letters, m_law_letters, F_law_letters⟩ := F_law_letters
  obtain ⟨a_law_any_look, fd_law_any_look, m_law_any_look, F_law_any_look⟩ := F_law_any_look
  obtain ⟨a_law_any_part, fd_law_any_part, m_law_any_part, F_law_any_part⟩ := F_law_any_part
  obtain ⟨a_law_odd, fd_law_odd, m_law_odd, F_law_odd⟩ := F_law_odd
  obtain ⟨a_law_bent_look, fd_law_bent_look, m_law_bent_look, F_law_bent_look⟩ := F_law_bent_look
  obtain ⟨a_law_bent_dream, fd_law_bent_dream, m_law_bent_dream, F_law_bent_dream⟩ := F_law_bent_dream
  obtain ⟨a_law_is_letters, fd_law_is_letters, m_law_is_letters, F_law_is_letters⟩ := F_law_is_letters
  obtain ⟨a_law_is_look, fd_law_is_look, m_law_is_look, F_law_is_look⟩ := F_law_is_look
  obtain ⟨a_law_is_dream, fd_law_is_dream, m_law_is_dream, F_law_is_dream⟩ := F_law_is_dream
  obtain ⟨a_check_board, fd_check_board, m_check_board, F_check_board⟩ := F_check_board
  obtain ⟨a_are_letters, fd_are_letters, m_are_letters, F_are_letters⟩ := F_are_letters
  obtain ⟨a_is_colour, fd_is_colour, m_is_colour, F_is_colour⟩ := F_is_colour
  obtain ⟨a_are_colours, fd_are_colours, m_are_colours, F_are_colours⟩ := F_are_colours
  obtain ⟨a_how_many, fd_how_many, m_how_many, F_how_many⟩ := F_how_many
  obtain ⟨a_is_picture, fd_is_picture, m_is_picture, F_is_picture⟩ := F_is_picture
  obtain ⟨a_is_rising, fd_is_rising, m_is_rising, F_is_rising⟩ := F_is_rising
  obtain ⟨a_is_part, fd_is_part, m_is_part, F_is_part⟩ := F_is_part
  obtain ⟨a_is_wish, fd_is_wish, m_is_wish, F_is_wish⟩ := F_is_wish
  obtain ⟨a_law_truth, fd_law_truth, m_law_truth, F_law_truth⟩ := F_law_truth
  obtain ⟨a_law_told_right, fd_law_told_right, m_law_told_right, F_law_told_right⟩ := F_law_told_right
  obtain ⟨a_law_sort, fd_law_sort, m_law_sort, F_law_sort⟩ := F_law_sort
  obtain ⟨a_law_refused, fd_law_refused, m_law_refused, F_law_refused⟩ := F_law_refused
  obtain ⟨a_is_whole, fd_is_whole, m_is_whole, F_is_whole⟩ := F_is_whole
  obtain ⟨a_is_within, fd_is_within, m_is_within, F_is_within⟩ := F_is_within
  obtain ⟨a_is_name, fd_is_name, m_is_name, F_is_name⟩ := F_is_name
  obtain ⟨a_are_cells, fd_are_cells, m_are_cells, F_are_cells⟩ := F_are_cells
  obtain ⟨a_are_pots, fd_are_pots, m_are_pots, F_are_pots⟩ := F_are_pots
  obtain ⟨a_is_band, fd_is_band, m_is_band, F_is_band⟩ := F_is_band
  obtain ⟨a_check_bands, fd_check_bands, m_check_bands, F_check_bands⟩ := F_check_bands
  obtain ⟨a_law, fd_law, m_law, F_law⟩ := F_law
  obtain ⟨e_B, k_B, c_Board___init__, a_Board___init__, fd_Board___init__, m_Board___init__, cl_Board___init__, me_Board___init__, F_Board___init__⟩ := F_Board___init__
  rw [hfa] at m_law
  cases m_law
  refine ⟨fd_law, fun s v => ?_, fun base => ?_⟩
  · obtain ⟨oc, od, dV, kV, doc, pm, an, cdv, ct, osl, rfl, _, _, hD, _⟩ := F_law.ex
    rcases hD with ⟨_, rfl⟩ | ⟨e, _⟩
    · exact .of_eq (ba_law kV doc pm an cdv ct [v] rfl)
    · exact absurd rfl e
  have xcs : ∀ p ∈ bse.xc, XcOk K mg P w base 2 p.1 p.2.1 p.2.2 := (all_cons (X_NoBoard P w base) (all_cons (X_NoSize P w base) (all_cons (X_NoBands P w base) all_nil)))
  have e_law_purse : FnE bse K mg P w base 4 "_law_purse" φ_purse := fnE (N := N_law_purse) (ps := p_law_purse) (body := b_purse) (k := 2) (GL.nil bf xcs) F_law_purse m_law_purse (by rw [show bse.hot.contains "_law_purse" = false from by decide +kernel]; exact d_law_purse) ba_law_purse rfl (kw_none (by decide +kernel)) hl_law_purse (show Ok (bse.tab _ _) n_purse b_purse φ_purse from ok_purse )
  have e_law_cell : FnE bse K mg P w base 4 "_law_cell" φ_cell := fnE (N := N_law_cell) (ps := p_law_cell) (body := b_cell) (k := 2) (GL.nil bf xcs) F_law_cell m_law_cell (by rw [show bse.hot.contains "_law_cell" = false from by decide +kernel]; exact d_law_cell) ba_law_cell rfl (kw_none (by decide +kernel)) hl_law_cell (show Ok (bse.tab _ _) n_cell b_cell φ_cell from ok_cell )
  have e_law_pick : FnE bse K mg P w base 4 "_law_pick" φ_pick := fnE (N := N_law_pick) (ps := p_law_pick) (body := b_pick) (k := 2) (GL.nil bf xcs) F_law_pick m_law_pick (by rw [show bse.hot.contains "_law_pick" = false from by decide +kernel]; exact d_law_pick) ba_law_pick rfl (kw_none (by decide +kernel)) hl_law_pick (show Ok (bse.tab _ _) n_pick b_pick φ_pick from ok_pick )
  have e_law_letters : FnE bse K mg P w base 4 "_law_letters" φ_k08_letters := fnE (N := N_law_letters) (ps := p_law_letters) (body := b_k08_letters) (k := 2) (GL.nil bf xcs) F_law_letters m_law_letters (by rw [show bse.hot.contains "_law_letters" = false from by decide +kernel]; exact d_law_letters) ba_law_letters rfl (kw_none (by decide +kernel)) hl_law_letters (show Ok (bse.tab _ _) n_k08_letters b_k08_letters φ_k08_letters from ok_k08_letters )
  have e_law_any_look : FnE bse K mg P w base 6 "_law_any_look" φ_k08_look := fnE (N := N_law_any_look) (ps := p_law_any_look) (body := (b_k08_look "_law_letters" "_law_pick")) (k := 4) (((GL.nil bf xcs).fn (e_law_pick.mono (by decide : 4 ≤ 4)) (by decide : 2 ≤ 4)).fn (e_law_letters.mono (by decide : 4 ≤ 4)) (by decide : 4 ≤ 4)) F_law_any_look m_law_any_look (by rw [show bse.hot.contains "_law_any_look" = false from by decide +kernel]; exact d_law_any_look) ba_law_any_look rfl (kw_none (by decide +kernel)) hl_law_any_look (show Ok (bse.tab _ _) n_k08_look (b_k08_look "_law_letters" "_law_pick") φ_k08_look from ok_k08_look ⟨rfl, .head _⟩ ⟨rfl, .head _⟩)
  have e_law_any_part : FnE bse K mg P w base 6 "_law_any_part" φ_k08_part := fnE (N := N_law_any_part) (ps := p_law_any_part) (body := (b_k08_part "_law_pick" "_law_letters")) (k := 4) (((GL.nil bf xcs).fn (e_law_letters.mono (by decide : 4 ≤ 4)) (by decide : 2 ≤ 4)).fn (e_law_pick.mono (by decide : 4 ≤ 4)) (by decide : 4 ≤ 4)) F_law_any_part m_law_any_part (by rw [show bse.hot.contains "_law_any_part" = false from by decide +kernel]; exact d_law_any_part) ba_law_any_part rfl (kw_none (by decide +kernel)) hl_law_any_part (show Ok (bse.tab _ _) n_k08_part (b_k08_part "_law_pick" "_law_letters") φ_k08_part from ok_k08_part ⟨rfl, .head _⟩ ⟨rfl, .head _⟩)
  have e_law_odd : FnE bse K mg P w base 6 "_law_odd" φ_k08_odd := fnE (N := N_law_odd) (ps := p_law_odd) (body := (b_k08_odd "_law_letters" "_law_pick")) (k := 4) (((GL.nil bf xcs).fn (e_law_pick.mono (by decide : 4 ≤ 4)) (by decide : 2 ≤ 4)).fn (e_law_letters.mono (by decide : 4 ≤ 4)) (by decide : 4 ≤ 4)) F_law_odd m_law_odd (by rw [show bse.hot.contains "_law_odd" = false from by decide +kernel]; exact d_law_odd) ba_law_odd rfl (kw_none (by decide +kernel)) hl_law_odd (show Ok (bse.tab _ _) n_k08_odd (b_k08_odd "_law_letters" "_law_pick") φ_k08_odd from ok_k08_odd ⟨rfl, .head _⟩ ⟨rfl, .head _⟩)
  have e_law_bent_look : FnE bse K mg P w base 8 "_law_bent_look" φ_k08_blook := fnE (N := N_law_bent_look) (ps := p_law_bent_look) (body := (b_k08_blook "_law_pick" "_law_odd")) (k := 6) (((GL.nil bf xcs).fn (e_law_odd.mono (by decide : 6 ≤ 6)) (by decide : 2 ≤ 6)).fn (e_law_pick.mono (by decide : 4 ≤ 6)) (by decide : 6 ≤ 6)) F_law_bent_look m_law_bent_look (by rw [show bse.hot.contains "_law_bent_look" = false from by decide +kernel]; exact d_law_bent_look) ba_law_bent_look rfl (kw_none (by decide +kernel)) hl_law_bent_look (show Ok (bse.tab _ _) n_k08_blook (b_k08_blook "_law_pick" "_law_odd") φ_k08_blook from ok_k08_blook ⟨rfl, .head _⟩ ⟨rfl, .head _⟩)
  have e_law_bent_dream : FnE bse K mg P w base 8 "_law_bent_dream" φ_k08_bdream := fnE (N := N_law_bent_dream) (ps := p_law_bent_dream) (body := (b_k08_bdream "_law_pick" "_law_odd")) (k := 6) (((GL.nil bf xcs).fn (e_law_odd.mono (by decide : 6 ≤ 6)) (by decide : 2 ≤ 6)).fn (e_law_pick.mono (by decide : 4 ≤ 6)) (by decide : 6 ≤ 6)) F_law_bent_dream m_law_bent_dream (by rw [show bse.hot.contains "_law_bent_dream" = false from by decide +kernel]; exact d_law_bent_dream) ba_law_bent_dream rfl (kw_none (by decide +kernel)) hl_law_bent_dream (show Ok (bse.tab _ _) n_k08_bdream (b_k08_bdream "_law_pick" "_law_odd") φ_k08_bdream from ok_k08_bdream ⟨rfl, .head _⟩ ⟨rfl, .head _⟩)
  have e_law_is_letters : FnE bse K mg P w base 6 "_law_is_letters" φ_k08_islet := fnE (N := N_law_is_letters) (ps := p_law_is_letters) (body := (b_k08_islet "_law_letters")) (k := 4) ((GL.nil bf xcs).fn (e_law_letters.mono (by decide : 4 ≤ 4)) (by decide : 2 ≤ 4)) F_law_is_letters m_law_is_letters (by rw [show bse.hot.contains "_law_is_letters" = false from by decide +kernel]; exact d_law_is_letters) ba_law_is_letters rfl (kw_none (by decide +kernel)) hl_law_is_letters (show Ok (bse.tab _ _) n_k08_islet (b_k08_islet "_law_letters") φ_k08_islet from ok_k08_islet ⟨rfl, .head _⟩)
  have e_law_is_look : FnE bse K mg P w base 8 "_law_is_look" φ_k08_islook := fnE (N := N_law_is_look) (ps := p_law_is_look) (body := (b_k08_islook "_law_is_letters")) (k := 6) ((GL.nil bf xcs).fn (e_law_is_letters.mono (by decide : 6 ≤ 6)) (by decide : 2 ≤ 6)) F_law_is_look m_law_is_look (by rw [show bse.hot.contains "_law_is_look" = false from by decide +kernel]; exact d_law_is_look) ba_law_is_look rfl (kw_none (by decide +kernel)) hl_law_is_look (show Ok (bse.tab _ _) n_k08_islook (b_k08_islook "_law_is_letters") φ_k08_islook from ok_k08_islook ⟨rfl, .head _⟩)
  have e_law_is_dream : FnE bse K mg P w base 8 "_law_is_dream" φ_k08_isdream := fnE (N := N_law_is_dream) (ps := p_law_is_dream) (body := (b_k08_isdream "_law_is_letters")) (k := 6) ((GL.nil bf xcs).fn (e_law_is_letters.mono (by decide : 6 ≤ 6)) (by decide : 2 ≤ 6)) F_law_is_dream m_law_is_dream (by rw [show bse.hot.contains "_law_is_dream" = false from by decide +kernel]; exact d_law_is_dream) ba_law_is_dream rfl (kw_none (by decide +kernel)) hl_law_is_dream (show Ok (bse.tab _ _) n_k08_isdream (b_k08_isdream "_law_is_letters") φ_k08_isdream from ok_k08_isdream ⟨rfl, .head _⟩)
  have e_check_board : FnE bse K mg P w base 4 "check_board" φ_check_board := fnE (N := N_check_board) (ps := p_check_board) (body := b_check_board) (k := 2) (GL.nil bf xcs) F_check_board m_check_board (by rw [show bse.hot.contains "check_board" = false from by decide +kernel]; exact d_check_board) ba_check_board rfl (kw_none (by decide +kernel)) hl_check_board (show Ok (bse.tab _ _) n_check_board b_check_board φ_check_board from ok_check_board (fun _ h => h) rfl)
  have e_are_letters : FnE bse K mg P w base 4 "are_letters" φ_are_letters := fnE (N := N_are_letters) (ps := p_are_letters) (body := b_are_letters) (k := 2) (GL.nil bf xcs) F_are_letters m_are_letters (by rw [show bse.hot.contains "are_letters" = false from by decide +kernel]; exact d_are_letters) ba_are_letters rfl (kw_none (by decide +kernel)) hl_are_letters (show Ok (bse.tab _ _) n_are_letters b_are_letters φ_are_letters from ok_are_letters rfl)
  have e_is_colour : FnE bse K mg P w base 6 "is_colour" (φ_lett 1) := fnE (N := N_is_colour) (ps := p_is_colour) (body := b_is_colour) (k := 4) ((GL.nil bf xcs).fn (e_are_letters.mono (by decide : 4 ≤ 4)) (by decide : 2 ≤ 4)) F_is_colour m_is_colour (by rw [show bse.hot.contains "is_colour" = false from by decide +kernel]; exact d_is_colour) ba_is_colour rfl (kw_none (by decide +kernel)) hl_is_colour (show Ok (bse.tab _ _) n_is_colour b_is_colour (φ_lett 1) from ok_is_colour ⟨rfl, .head _⟩)
  have e_are_colours : FnE bse K mg P w base 8 "are_colours" φ_are_colours := fnE (N := N_are_colours) (ps := p_are_colours) (body := b_are_colours) (k := 6) ((GL.nil bf xcs).fn (e_is_colour.mono (by decide : 6 ≤ 6)) (by decide : 2 ≤ 6)) F_are_colours m_are_colours (by rw [show bse.hot.contains "are_colours" = false from by decide +kernel]; exact d_are_colours) ba_are_colours rfl (kw_none (by decide +kernel)) hl_are_colours (show Ok (bse.tab _ _) n_are_colours b_are_colours φ_are_colours from ok_are_colours ⟨rfl, .head _⟩)
  have e_how_many : FnE bse K mg P w base 4 "how_many" φ_how_many := fnE (N := N_how_many) (ps := p_how_many) (body := b_how_many) (k := 2) (GL.nil bf xcs) F_how_many m_how_many (by rw [show bse.hot.contains "how_many" = false from by decide +kernel]; exact d_how_many) ba_how_many rfl (kw_none (by decide +kernel)) hl_how_many (show Ok (bse.tab _ _) n_how_many b_how_many φ_how_many from ok_how_many (fun _ h => h))
  have e_is_picture : FnE bse K mg P w base 10 "is_picture" φ_is_picture := fnE (N := N_is_picture) (ps := p_is_picture) (body := b_is_picture) (k := 8) ((((GL.nil bf xcs).fn (e_how_many.mono (by decide : 4 ≤ 8)) (by decide : 2 ≤ 8)).fn (e_are_colours.mono (by decide : 8 ≤ 8)) (by decide : 8 ≤ 8)).fn (e_check_board.mono (by decide : 4 ≤ 8)) (by decide : 8 ≤ 8)) F_is_picture m_is_picture (by rw [show bse.hot.contains "is_picture" = false from by decide +kernel]; exact d_is_picture) ba_is_picture rfl (kw_by (all_cons (fun _ => ⟨[1, 0], rfl, bk_0⟩) (all_cons (fun z => absurd z (by decide)) all_nil))) hl_is_picture (show Ok (bse.tab _ _) n_is_picture b_is_picture φ_is_picture from ok_is_picture ⟨rfl, .head _⟩ ⟨rfl, .head _⟩ ⟨rfl, .head _⟩)
  have e_is_rising : FnE bse K mg P w base 4 "is_rising" φ_is_rising := fnE (N := N_is_rising) (ps := p_is_rising) (body := b_is_rising) (k := 2) (GL.nil bf xcs) F_is_rising m_is_rising (by rw [show bse.hot.contains "is_rising" = false from by decide +kernel]; exact d_is_rising) ba_is_rising rfl (kw_none (by decide +kernel)) hl_is_rising (show Ok (bse.tab _ _) n_is_rising b_is_rising φ_is_rising from ok_is_rising )
  have e_is_part : FnE bse K mg P w base 10 "is_part" φ_is_part := fnE (N := N_is_part) (ps := p_is_part) (body := b_is_part) (k := 8) (((GL.nil bf xcs).fn (e_is_rising.mono (by decide : 4 ≤ 8)) (by decide : 2 ≤ 8)).fn (e_are_colours.mono (by decide : 8 ≤ 8)) (by decide : 8 ≤ 8)) F_is_part m_is_part (by rw [show bse.hot.contains "is_part" = false from by decide +kernel]; exact d_is_part) ba_is_part rfl (kw_none (by decide +kernel)) hl_is_part (show Ok (bse.tab _ _) n_is_part b_is_part φ_is_part from ok_is_part ⟨rfl, .head _⟩ ⟨rfl, .head _⟩)
  have e_is_wish : FnE bse K mg P w base 12 "is_wish" φ_is_wish := fnE (N := N_is_wish) (ps := p_is_wish) (body := b_is_wish) (k := 10) ((((GL.nil bf xcs).fn (e_how_many.mono (by decide : 4 ≤ 10)) (by decide : 2 ≤ 10)).fn (e_is_part.mono (by decide : 10 ≤ 10)) (by decide : 10 ≤ 10)).fn (e_check_board.mono (by decide : 4 ≤ 10)) (by decide : 10 ≤ 10)) F_is_wish m_is_wish (by rw [show bse.hot.contains "is_wish" = false from by decide +kernel]; exact d_is_wish) ba_is_wish rfl (kw_by (all_cons (fun z => absurd z (by decide)) (all_cons (fun _ => ⟨[1, 0], rfl, bk_1⟩) all_nil))) hl_is_wish (show Ok (bse.tab _ _) n_is_wish b_is_wish φ_is_wish from ok_is_wish ⟨rfl, .head _⟩ ⟨rfl, .head _⟩ ⟨rfl, .head _⟩)
  have e_law_truth : FnE bse K mg P w base 4 "_law_truth" φ_k08_truth := fnE (N := N_law_truth) (ps := p_law_truth) (body := b_k08_truth) (k := 2) (GL.nil bf xcs) F_law_truth m_law_truth (by rw [show bse.hot.contains "_law_truth" = false from by decide +kernel]; exact d_law_truth) ba_law_truth rfl (kw_none (by decide +kernel)) hl_law_truth (show Ok (bse.tab _ _) n_k08_truth b_k08_truth φ_k08_truth from ok_k08_truth )
  have e_law_told_right : FnE bse K mg P w base 14 "_law_told_right" φ_k08_told := fnE (N := N_law_told_right) (ps := p_law_told_right) (body := (b_k08_told "_law_is_look" "_law_is_dream" "_law_truth")) (k := 12) ((((((GL.nil bf xcs).fn (e_law_truth.mono (by decide : 4 ≤ 12)) (by decide : 2 ≤ 12)).fn (e_is_wish.mono (by decide : 12 ≤ 12)) (by decide : 12 ≤ 12)).fn (e_is_picture.mono (by decide : 10 ≤ 12)) (by decide : 12 ≤ 12)).fn (e_law_is_dream.mono (by decide : 8 ≤ 12)) (by decide : 12 ≤ 12)).fn (e_law_is_look.mono (by decide : 8 ≤ 12)) (by decide : 12 ≤ 12)) F_law_told_right m_law_told_right (by rw [show bse.hot.contains "_law_told_right" = false from by decide +kernel]; exact d_law_told_right) ba_law_told_right rfl (kw_none (by decide +kernel)) hl_law_told_right (show Ok (bse.tab _ _) n_k08_told (b_k08_told "_law_is_look" "_law_is_dream" "_law_truth") φ_k08_told from ok_k08_told ⟨rfl, .head _⟩ ⟨rfl, .head _⟩ ⟨rfl, .head _⟩ ⟨rfl, .head _⟩ ⟨rfl, rfl⟩ ⟨rfl, rfl⟩ ⟨rfl, .head _⟩)
  have e_law_sort : FnE bse K mg P w base 4 "_law_sort" φ_sort1 := fnE (N := N_law_sort) (ps := p_law_sort) (body := b_sort1) (k := 2) (GL.nil bf xcs) F_law_sort m_law_sort (by rw [show bse.hot.contains "_law_sort" = true from by decide +kernel]; exact d_law_sort) ba_law_sort rfl (kw_none (by decide +kernel)) hl_law_sort (show Ok (bse.tab _ _) n_sort1 b_sort1 φ_sort1 from ok_sort1 (show Tab.Xs (bse.tab _ _) "NoBoard" (rowX 14 1) from Tab.Xs.of (by decide +kernel)) (show Tab.Xs (bse.tab _ _) "NoPicture" (rowX 3 0) from Tab.Xs.of (by decide +kernel)) (show Tab.Xs (bse.tab _ _) "NoWish" (rowX 4 0) from Tab.Xs.of (by decide +kernel)))
  have e_law_refused : FnE bse K mg P w base 14 "_law_refused" φ_k08_refused := fnE (N := N_law_refused) (ps := p_law_refused) (body := (b_k08_refused "_law_sort")) (k := 12) ((((GL.nil bf xcs).fn (e_law_sort.mono (by decide : 4 ≤ 12)) (by decide : 2 ≤ 12)).fn (e_is_wish.mono (by decide : 12 ≤ 12)) (by decide : 12 ≤ 12)).fn (e_is_picture.mono (by decide : 10 ≤ 12)) (by decide : 12 ≤ 12)) F_law_refused m_law_refused (by rw [show bse.hot.contains "_law_refused" = false from by decide +kernel]; exact d_law_refused) ba_law_refused rfl (kw_none (by decide +kernel)) hl_law_refused (show Ok (bse.tab _ _) n_k08_refused (b_k08_refused "_law_sort") φ_k08_refused from ok_k08_refused ⟨rfl, .head _⟩ ⟨rfl, .head _⟩ ⟨rfl, rfl⟩ ⟨rfl, .head _⟩ ((by decide +kernel)) (show Tab.Xs (bse.tab _ _) "NoBoard" (rowX 14 1) from Tab.Xs.of (by decide +kernel)) rfl rfl)
  have e_is_whole : FnE bse K mg P w base 4 "is_whole" φ_is_whole := fnE (N := N_is_whole) (ps := p_is_whole) (body := b_is_whole) (k := 2) (GL.nil bf xcs) F_is_whole m_is_whole (by rw [show bse.hot.contains "is_whole" = false from by decide +kernel]; exact d_is_whole) ba_is_whole rfl (kw_none (by decide +kernel)) hl_is_whole (show Ok (bse.tab _ _) n_is_whole b_is_whole φ_is_whole from ok_is_whole )
  have e_is_within : FnE bse K mg P w base 6 "is_within" φ_is_within := fnE (N := N_is_within) (ps := p_is_within) (body := b_is_within) (k := 4) ((GL.nil bf xcs).fn (e_is_whole.mono (by decide : 4 ≤ 4)) (by decide : 2 ≤ 4)) F_is_within m_is_within (by rw [show bse.hot.contains "is_within" = false from by decide +kernel]; exact d_is_within) ba_is_within rfl (kw_none (by decide +kernel)) hl_is_within (show Ok (bse.tab _ _) n_is_within b_is_within φ_is_within from ok_is_within ⟨rfl, .head _⟩)
  have e_is_name : FnE bse K mg P w base 6 "is_name" (φ_lett 6) := fnE (N := N_is_name) (ps := p_is_name) (body := b_is_name) (k := 4) ((GL.nil bf xcs).fn (e_are_letters.mono (by decide : 4 ≤ 4)) (by decide : 2 ≤ 4)) F_is_name m_is_name (by rw [show bse.hot.contains "is_name" = false from by decide +kernel]; exact d_is_name) ba_is_name rfl (kw_none (by decide +kernel)) hl_is_name (show Ok (bse.tab _ _) n_is_name b_is_name (φ_lett 6) from ok_is_name ⟨rfl, .head _⟩ rfl)
  have e_are_cells : FnE bse K mg P w base 8 "are_cells" φ_are_cells := fnE (N := N_are_cells) (ps := p_are_cells) (body := b_are_cells) (k := 6) (((GL.nil bf xcs).fn (e_is_rising.mono (by decide : 4 ≤ 6)) (by decide : 2 ≤ 6)).fn (e_is_within.mono (by decide : 6 ≤ 6)) (by decide : 6 ≤ 6)) F_are_cells m_are_cells (by rw [show bse.hot.contains "are_cells" = false from by decide +kernel]; exact d_are_cells) ba_are_cells rfl (kw_none (by decide +kernel)) hl_are_cells (show Ok (bse.tab _ _) n_are_cells b_are_cells φ_are_cells from ok_are_cells ⟨rfl, .head _⟩ ⟨rfl, .head _⟩)
  have e_are_pots : FnE bse K mg P w base 6 "are_pots" φ_are_pots := fnE (N := N_are_pots) (ps := p_are_pots) (body := b_are_pots) (k := 4) (((GL.nil bf xcs).fn (e_is_rising.mono (by decide : 4 ≤ 4)) (by decide : 2 ≤ 4)).fn (e_are_letters.mono (by decide : 4 ≤ 4)) (by decide : 4 ≤ 4)) F_are_pots m_are_pots (by rw [show bse.hot.contains "are_pots" = false from by decide +kernel]; exact d_are_pots) ba_are_pots rfl (kw_none (by decide +kernel)) hl_are_pots (show Ok (bse.tab _ _) n_are_pots b_are_pots φ_are_pots from ok_are_pots ⟨rfl, .head _⟩ ⟨rfl, .head _⟩ rfl)
  have e_is_band : FnE bse K mg P w base 10 "is_band" φ_is_band := fnE (N := N_is_band) (ps := p_is_band) (body := b_is_band) (k := 8) (((((GL.nil bf xcs).fn (e_is_within.mono (by decide : 6 ≤ 8)) (by decide : 2 ≤ 8)).fn (e_are_pots.mono (by decide : 6 ≤ 8)) (by decide : 8 ≤ 8)).fn (e_are_cells.mono (by decide : 8 ≤ 8)) (by decide : 8 ≤ 8)).fn (e_is_name.mono (by decide : 6 ≤ 8)) (by decide : 8 ≤ 8)) F_is_band m_is_band (by rw [show bse.hot.contains "is_band" = false from by decide +kernel]; exact d_is_band) ba_is_band rfl (kw_none (by decide +kernel)) hl_is_band (show Ok (bse.tab _ _) n_is_band b_is_band φ_is_band from ok_is_band ⟨rfl, .head _⟩ ⟨rfl, .head _⟩ ⟨rfl, .head _⟩ ⟨rfl, .head _⟩ rfl)
  have e_check_bands : FnE bse K mg P w base 12 "check_bands" φ_check_bands := fnE (N := N_check_bands) (ps := p_check_bands) (body := b_check_bands) (k := 10) ((GL.nil bf xcs).fn (e_is_band.mono (by decide : 10 ≤ 10)) (by decide : 2 ≤ 10)) F_check_bands m_check_bands (by rw [show bse.hot.contains "check_bands" = false from by decide +kernel]; exact d_check_bands) ba_check_bands rfl (kw_none (by decide +kernel)) hl_check_bands (show Ok (bse.tab _ _) n_check_bands b_check_bands φ_check_bands from ok_check_bands ⟨rfl, .head _⟩ rfl rfl)
  have e_Board___init__ : MeE bse K mg P w base 14 "Board" ini φ_Board_init := by
    obtain ⟨ds3, v3, b3⟩ := F_Board___init__.binds1 (ps := p_Board___init__) 3 0 (by simp) rfl (fun T kV doc pm an cdv ct us its hu hi => match us, its, hu, hi with | [_, _, _], [_], _, _ => ⟨_, rfl, rfl⟩)
    obtain ⟨ds4, v4, b4⟩ := F_Board___init__.binds1 (ps := p_Board___init__) 4 1 (by simp) rfl (fun T kV doc pm an cdv ct us its hu hi => match us, its, hu, hi with | [_, _, _, _], [_], _, _ => ⟨_, rfl, rfl⟩)
    cases v4
    exact meE (k := 12) (((GL.nil bf xcs).fn (e_check_bands.mono (by decide : 12 ≤ 12)) (by decide : 2 ≤ 12)).fn (e_is_within.mono (by decide : 6 ≤ 12)) (by decide : 12 ≤ 12)) F_Board___init__ m_Board___init__ cl_Board___init__ me_Board___init__ d_Board___init__ b4
      (fun _ => ⟨⟨(M_Board c_Board___init__ m_Board___init__).1, me_Board___init__.at_, me_Board___init__.fn, (M_Board c_Board___init__ m_Board___init__).2⟩, (show ∀ df ∈ ([[.tup []]] : List (List D)), ∃ dvs us, Binds K fd_Board___init__ p_Board___init__ us ∧ Vals dvs us ∧ ∀ B S H, RDs ⟨K, mg, B⟩ S H df dvs from (all_cons ⟨[.ref e_B], ds3, b3, v3, fun B S H => RDs.cons (by unfold RD; exact ⟨e_B, [], rfl, .inr k_B, RDs.nil⟩) RDs.nil⟩ all_nil))⟩) hl_Board___init__ (show Ok (bse.tab _ _) n_Board_init b_Board_init φ_Board_init from ok_Board_init ⟨rfl, .head _⟩ ⟨rfl, .head _⟩ rfl (fun _ h => h) rfl)
  exact fn_ok (hot := false) (k := 14) (GL.ge ((((((((((((GL.nil bf xcs).me (e_Board___init__.mono (by decide : 14 ≤ 14)) (by decide : 2 ≤ 14)).fn (e_law_refused.mono (by decide : 14 ≤ 14)) (by decide : 14 ≤ 14)).fn (e_law_told_right.mono (by decide : 14 ≤ 14)) (by decide : 14 ≤ 14)).fn (e_law_odd.mono (by decide : 6 ≤ 14)) (by decide : 14 ≤ 14)).fn (e_law_bent_dream.mono (by decide : 8 ≤ 14)) (by decide : 14 ≤ 14)).fn (e_law_bent_look.mono (by decide : 8 ≤ 14)) (by decide : 14 ≤ 14)).fn (e_law_any_part.mono (by decide : 6 ≤ 14)) (by decide : 14 ≤ 14)).fn (e_law_any_look.mono (by decide : 6 ≤ 14)) (by decide : 14 ≤ 14)).fn (e_law_pick.mono (by decide : 4 ≤ 14)) (by decide : 14 ≤ 14)).fn (e_law_cell.mono (by decide : 4 ≤ 14)) (by decide : 14 ≤ 14)).fn (e_law_purse.mono (by decide : 4 ≤ 14)) (by decide : 14 ≤ 14))) (FunD.shape F_law) d_law hl_law (show Ok (bse.tab _ _) n_law08 (b_law08 "_law_purse" "_law_cell" "_law_pick" "_law_any_look" "_law_any_part" "_law_bent_look" "_law_bent_dream" "_law_odd" "_law_told_right" "_law_refused") φ_law from ok_law08 ⟨rfl, .head _⟩ ⟨rfl, .head _⟩ ⟨rfl, .head _⟩ ⟨rfl, .head _⟩ ⟨rfl, .head _⟩ ⟨rfl, .head _⟩ ⟨rfl, .head _⟩ ⟨rfl, .head _⟩ ⟨rfl, .head _⟩ ⟨rfl, .head _⟩ ⟨rfl, .head _⟩ rfl)
theorem fin_j {P : Program} {w : World} {K : PySem.W.Frag} {mg : Str → Option Value} {h : Heap} {fa : Addr} (X : K.In h) (G : h.Ns mainGlobals mg) (hfa : mg "law" = some (.ref fa))
    (c0 : ∃ t, mg "LETTERS" = some (.str (mkS abc) t))
    (c1 : ∃ t, mg "MOST_SIDE" = some (.int 6 t))
    (c2 : ∃ t, mg "MOST_BANDS" = some (.int 12 t))
    (c3 : ∃ t, mg "MOST_COST" = some (.int 9 t))
    (c4 : ∃ t, mg "MOST_NAME" = some (.int 6 t))
    (c5 : ∃ t, mg "MOST_POTS" = some (.int 6 t))
    (kBoard : FactCls K mg "Board" ["high", "wide", "bands"])
    (oBoard : FactOwn K mg "Board")
    (oWall : FactOwn K mg "Wall")
    (oDesk : FactOwn K mg "Desk")
    (t0 : FactTwo K mg "Board" "Wall")
    (t1 : FactTwo K mg "Board" "Desk")
    (t2 : FactTwo K mg "Wall" "Desk")
    (z0 : PySem.W.nsIn K mainGlobals "len" = some none)
    (z1 : PySem.W.nsIn K mainGlobals "all" = some none)
    (z2 : PySem.W.nsIn K mainGlobals "any" = some none)
    (z3 : PySem.W.nsIn K mainGlobals "abs" = some none)
    (z4 : PySem.W.nsIn K mainGlobals "max" = some none)
    (z5 : PySem.W.nsIn K mainGlobals "min" = some none)
    (z6 : PySem.W.nsIn K mainGlobals "int" = some none)
    (z7 : PySem.W.nsIn K mainGlobals "str" = some none)
    (z8 : PySem.W.nsIn K mainGlobals "tuple" = some none)
    (z9 : PySem.W.nsIn K mainGlobals "list" = some none)
    (z10 : PySem.W.nsIn K mainGlobals "divmod" = some none)
    (z11 : PySem.W.nsIn K mainGlobals "isinstance" = some none)
    (z12 : PySem.W.nsIn K mainGlobals "range" = some none)
    (z13 : PySem.W.nsIn K mainGlobals "enumerate" = some none)
    (z14 : PySem.W.nsIn K mainGlobals "zip" = some none)
    (z15 : PySem.W.nsIn K mainGlobals "bool" = some none)
    (z16 : PySem.W.nsIn K mainGlobals "dict" = some none)
    (z17 : PySem.W.nsIn K mainGlobals "sorted" = some none)
    (z18 : PySem.W.nsIn K mainGlobals "set" = some none)
    (z19 : PySem.W.nsIn K mainGlobals "repr" = some none)
    (z20 : PySem.W.nsIn K mainGlobals "sum" = some none)
    (z21 : PySem.W.nsIn K mainGlobals "reversed" = some none)
    (xs : List.all ([("NoBoard", (rowX 14 1)), ("NoPicture", (rowX 3 0)), ("NoWish", (rowX 4 0))] : List (Str × List (Str × Bool))) (xsRow K) = true)
    (R_Board : FactMe K mg "Board" "__repr__" "Board.__repr__" sr_Board [])
    (F_law_purse : FactFn K mg "_law_purse" s_law_purse)
    (F_law_cell : FactFn K mg "_law_cell" s_law_cell)
    (F_law_pick : FactFn K mg "_law_pick" s_law_pick)
    (F_law_letters : FactFn K mg "_law_letters" s_law_letters)
    (F_law_any_look : FactFn K mg "_law_any_look" s_law_any_look)
    (F_law_any_part : FactFn K mg "_law_any_part" s_law_any_part)
    (F_law_odd : FactFn K mg "_law_odd" s_law_odd)
    (F_law_bent_look : FactFn K mg "_law_bent_look" s_law_bent_look)
    (F_law_bent_dream : FactFn K mg "_law_bent_dream" s_law_bent_dream)
    (F_law_is_letters : FactFn K mg "_law_is_letters" s_law_is_letters)
    (F_law_is_look : FactFn K mg "_law_is_look" s_law_is_look)
    (F_law_is_dream : FactFn K mg "_law_is_dream" s_law_is_dream)
    (F_check_board : FactFn K mg "check_board" s_check_board)
    (F_are_letters : FactFn K mg "are_letters" s_are_letters)
    (F_is_colour : FactFn K mg "is_colour" s_is_colour)
    (F_are_colours : FactFn K mg "are_colours" s_are_colours)
    (F_how_many : FactFn K mg "how_many" s_how_many)
    (F_is_picture : FactFn K mg "is_picture" s_is_picture)
    (F_is_rising : FactFn K mg "is_rising" s_is_rising)
    (F_is_part : FactFn K mg "is_part" s_is_part)
    (F_is_wish : FactFn K mg "is_wish" s_is_wish)
    (F_law_truth : FactFn K mg "_law_truth" s_law_truth)
    (F_law_told_right : FactFn K mg "_law_told_right" s_law_told_right)
    (F_law_sort : FactFn K mg "_law_sort" s_law_sort)
    (F_law_refused : FactFn K mg "_law_refused" s_law_refused)
    (F_is_whole : FactFn K mg "is_whole" s_is_whole)
    (F_is_within : FactFn K mg "is_within" s_is_within)
    (F_is_name : FactFn K mg "is_name" s_is_name)
    (F_are_cells : FactFn K mg "are_cells" s_are_cells)
    (F_are_pots : FactFn K mg "are_pots" s_are_pots)
    (F_is_band : FactFn K mg "is_band" s_is_band)
    (F_check_bands : FactFn K mg "check_bands" s_check_bands)
    (F_Board___init__ : FactMeD K mg "Board" ini "Board.__init__" s_Board___init__)
    (F_law : FactFn K mg "law" s_law)
    (X_NoBoard : FactX K mg "NoBoard" (some "board") false)
    (X_NoSize : FactX K mg "NoSize" (some "part") true)
    (X_NoBands : FactX K mg "NoBands" (some "number") false)
    : ∃ φ : FSp, (∀ (ns : List Int) S E, ns.length ≤ 63 → φ [.lsk (ns.map .int)] S (fun d _ => d = .bl true) E) ∧ ∃ fd : FuncData, (∀ (s : Shared) (u : Value), BindsTo s fd ⟨[u], []⟩ [("_law_script", u)]) ∧ ∀ base : Heap, FnG false P w K mg base (L2N.CX P w) 16 fa fd ["_law_script"] (spOf K mg φ) := by
  have bf : BF bse K mg := bf_of (all_cons (con_str' c0 (by decide)) (all_cons (con_int' c1) (all_cons (con_int' c2) (all_cons (con_int' c3) (all_cons (con_int' c4) (all_cons (con_int' c5) all_nil)))))) (all_cons (fld_of kBoard) all_nil) (own_all oBoard oWall oDesk t0 t1 t2) (all_cons (gone_of X G z0) (all_cons (gone_of X G z1) (all_cons (gone_of X G z2) (all_cons (gone_of X G z3) (all_cons (gone_of X G z4) (all_cons (gone_of X G z5) (all_cons (gone_of X G z6) (all_cons (gone_of X G z7) (all_cons (gone_of X G z8) (all_cons (gone_of X G z9) (all_cons (gone_of X G z10) (all_cons (gone_of X G z11) (all_cons (gone_of X G z12) (all_cons (gone_of X G z13) (all_cons (gone_of X G z14) (all_cons (gone_of X G z15) (all_cons (gone_of X G z16) (all_cons (gone_of X G z17) (all_cons (gone_of X G z18) (all_cons (gone_of X G z19) (all_cons (gone_of X G z20) (all_cons (gone_of X G z21) all_nil)))))))))))))))))))))) (xs_ok X G xs) all_nil all_nil (all_cons (rp_ok (self := "self") R_Board kBoard (gone_of X G z0) dr_Board (by decide) br_Board) all_nil)
  exact ⟨φ_law, fun ns S E h => ⟨ns, rfl, h, fun _ => rfl⟩, all_j hfa bf F_law_purse F_law_cell F_law_pick F_law_letters F_law_any_look F_law_any_part F_law_odd F_law_bent_look F_law_bent_dream F_law_is_letters F_law_is_look F_law_is_dream F_check_board F_are_letters F_is_colour F_are_colours F_how_many F_is_picture F_is_rising F_is_part F_is_wish F_law_truth F_law_told_right F_law_sort F_law_refused F_is_whole F_is_within F_is_name F_are_cells F_are_pots F_is_band F_check_bands F_Board___init__ F_law (mk_of kBoard) X_NoBoard X_NoSize X_NoBands⟩
theorem fin_h {P : Program} {w : World} {K : PySem.W.Frag} {mg : Str → Option Value} {h : Heap} {fa : Addr} (X : K.In h) (c : CkSays cs_j fn_j K) (G : h.Ns mainGlobals mg) (hfa : mg "law" = some (.ref fa))
    : ∃ φ : FSp, (∀ (ns : List Int) S E, ns.length ≤ 63 → φ [.lsk (ns.map .int)] S (fun d _ => d = .bl true) E) ∧ ∃ fd : FuncData, (∀ (s : Shared) (u : Value), BindsTo s fd ⟨[u], []⟩ [("_law_script", u)]) ∧ ∀ base : Heap, FnG false P w K mg base (L2N.CX P w) 16 fa fd ["_law_script"] (spOf K mg φ) :=
  fin_j X G hfa
    (ck_str X G (c.fact 0))
    (ck_int X G (c.fact 1))
    (ck_int X G (c.fact 2))
    (ck_int X G (c.fact 3))
    (ck_int X G (c.fact 4))
    (ck_int X G (c.fact 5))
    (ck_cls X G (c.fact 6))
    (ck_own X G (ck_cls X G (c.fact 6)) (c.fact 7))
    (ck_not X G (c.fact 8))
    (ck_not X G (c.fact 9))
    (two_no X G (ck_free (c.fact 8)))
    (two_no X G (ck_free (c.fact 9)))
    (two_no X G (ck_free (c.fact 9)))
    (ck_free (c.fact 10))
    (ck_free (c.fact 11))
    (ck_free (c.fact 12))
    (ck_free (c.fact 13))
    (ck_free (c.fact 14))
    (ck_free (c.fact 15))
    (ck_free (c.fact 16))
    (ck_free (c.fact 17))
    (ck_free (c.fact 18))
    (ck_free (c.fact 19))
    (ck_free (c.fact 20))
    (ck_free (c.fact 21))
    (ck_free (c.fact 22))
    (ck_free (c.fact 23))
    (ck_free (c.fact 24))
    (ck_free (c.fact 25))
    (ck_free (c.fact 26))
    (ck_free (c.fact 27))
    (ck_free (c.fact 28))
    (ck_free (c.fact 29))
    (ck_free (c.fact 30))
    (ck_free (c.fact 31))
    (ck_xs (c.fact 32))
    (ck_me X G (c.fact 33) (c.defs.def_ 34 (d := dd_rp_Board)))
    (ck_fn X G (c.fact 34) (c.defs.def_ 0 (d := dd_law_purse)))
    (ck_fn X G (c.fact 35) (c.defs.def_ 1 (d := dd_law_cell)))
    (ck_fn X G (c.fact 36) (c.defs.def_ 2 (d := dd_law_pick)))
    (ck_fn X G (c.fact 37) (c.defs.def_ 3 (d := dd_law_letters)))
    (ck_fn X G (c.fact 38) (c.defs.def_ 4 (d := dd_law_any_look)))
    (ck_fn X G (c.fact 39) (c.defs.def_ 5 (d := dd_law_any_part)))
    (ck_fn X G (c.fact 40) (c.defs.def_ 6 (d := dd_law_odd)))
    (ck_fn X G (c.fact 41) (c.defs.def_ 7 (d := dd_law_bent_look)))
    (ck_fn X G (c.fact 42) (c.defs.def_ 8 (d := dd_law_bent_dream)))
    (ck_fn X G (c.fact 43) (c.defs.def_ 9 (d := dd_law_is_letters)))
    (ck_fn X G (c.fact 44) (c.defs.def_ 10 (d := dd_law_is_look)))
    (ck_fn X G (c.fact 45) (c.defs.def_ 11 (d := dd_law_is_dream)))
    (ck_fn X G (c.fact 46) (c.defs.def_ 12 (d := dd_check_board)))
    (ck_fn X G (c.fact 47) (c.defs.def_ 13 (d := dd_are_letters)))
    (ck_fn X G (c.fact 48) (c.defs.def_ 14 (d := dd_is_colour)))
    (ck_fn X G (c.fact 49) (c.defs.def_ 15 (d := dd_are_colours)))
    (ck_fn X G (c.fact 50) (c.defs.def_ 16 (d := dd_how_many)))
    (ck_fn X G (c.fact 51) (c.defs.def_ 17 (d := dd_is_picture)))
    (ck_fn X G (c.fact 52) (c.defs.def_ 18 (d := dd_is_rising)))
    (ck_fn X G (c.fact 53) (c.defs.def_ 19 (d := dd_is_part)))
    (ck_fn X G (c.fact 54) (c.defs.def_ 20 (d := dd_is_wish)))
    (ck_fn X G (c.fact 55) (c.defs.def_ 21 (d := dd_law_truth)))
    (ck_fn X G (c.fact 56) (c.defs.def_ 22 (d := dd_law_told_right)))
    (ck_fn X G (c.fact 57) (c.defs.def_ 23 (d := dd_law_sort)))
    (ck_fn X G (c.fact 58) (c.defs.def_ 24 (d := dd_law_refused)))
    (ck_fn X G (c.fact 59) (c.defs.def_ 25 (d := dd_is_whole)))
    (ck_fn X G (c.fact 60) (c.defs.def_ 26 (d := dd_is_within)))
    (ck_fn X G (c.fact 61) (c.defs.def_ 27 (d := dd_is_name)))
    (ck_fn X G (c.fact 62) (c.defs.def_ 28 (d := dd_are_cells)))
    (ck_fn X G (c.fact 63) (c.defs.def_ 29 (d := dd_are_pots)))
    (ck_fn X G (c.fact 64) (c.defs.def_ 30 (d := dd_is_band)))
    (ck_fn X G (c.fact 65) (c.defs.def_ 31 (d := dd_check_bands)))
    (ck_meD X G (c.fact 66) (c.defs.def_ 32 (d := dd_Board___init__)))
    (ck_fn X G (c.fact 67) (c.defs.def_ 33 (d := dd_law)))
    (ck_xc .look X G bx_NoBoard ix_NoBoard (c.fact 68) (c.defs.def_ 35 (d := dd_x_NoBoard)))
    (ck_xc .val X G bx_NoSize ix_NoSize (c.fact 69) (c.defs.def_ 36 (d := dd_x_NoSize)))
    (ck_xc .val X G bx_NoBands ix_NoBands (c.fact 70) (c.defs.def_ 37 (d := dd_x_NoBands)))
theorem ob_eqj (s : PySem.W.SharedT) : ob_j s = (ckHook cs_j fn_j).obs s.abs := ckObs_eq (HandSHeadRun.getT_eq s)
end G
open PySem PySem.W PyProof.Rows
set_option maxRecDepth 100000 in
set_option maxHeartbeats 0 in
theorem PySem.Challenge.cw_lastcoat_k08_pictures_and_wishes_of_any_holds : PySem.Challenge.rw_lastcoat_k08_pictures_and_wishes_of_any.Holds := by
  w_on; o_law
  refine HandSHeadRun.head_any (r := OpenLaw.row PySem.Challenge.rw_lastcoat_k08_pictures_and_wishes_of_any) (q := view (OpenLaw.row PySem.Challenge.rw_lastcoat_k08_pictures_and_wishes_of_any).prog [70]) (H := G.ckHook G.cs_j G.fn_j) (ob := G.ob_j) (M := 20000) (loose := G.nm_j) (d := HandSHeadRun.topDef (OpenLaw.row PySem.Challenge.rw_lastcoat_k08_pictures_and_wishes_of_any).prog 70) (kwd := []) G.ob_eqj (by kernel_rfl) (fun s => by kernel_rfl) G.run_j (by kernel_rfl) (by kernel_rfl) (by kernel_rfl) (by rfl) (by first | assumption | decide +kernel) (by decide +kernel) ⟨rfl, rfl, rfl, rfl, rfl, by decide +kernel⟩ ?hw ?hc
  case hw => w_witness2
  case hc =>
    refine G.ck_walk (l := PySem.Challenge.rw_lastcoat_k08_pictures_and_wishes_of_any) (n := 63) (k := 16) (x := "_law_script") rfl (by decide) (by kernel_rfl) ⟨rfl, by decide, by decide⟩ ?F
    intro w mg fa h K KX c GN hmg0
    have hmg : mg ("law" : PySem.Str) = some (.ref fa) := by
      have e : (HandSHeadRun.topDef (OpenLaw.row PySem.Challenge.rw_lastcoat_k08_pictures_and_wishes_of_any).prog 70).name = ("law" : PySem.Str) := by kernel_rfl
      rw [← e]
      exact hmg0
    exact G.fin_h KX c GN hmg
